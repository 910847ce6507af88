import PyProof.Rows.All
import Wide.All
import OpenK.AllK
import Wide.FinOn
import KE.KStateDown
import HandS.ForMost
import HandS.Conv
import HandS.TupAny
import HandS.Deep
import HandS.SetKeys
import HandS.Defaults
import HandS.IsInst
import HandS.TupSets
import HandS.SetFor
import KE.SortData
import HandS.Codes
import HandS.SetBool
import HandS.DictComp
import HandS.More
import Lean
import HandS.Base
import HandS.Call
import HandS.Ends
import HandS.Words
import HandS.WordsExc
import HandS.Head0
import HandS.Head1
import HandS.Head2
import HandS.HeadEnd
import HandS.HeadHook1
import HandS.HeadHook2
import PySem.Challenge.RW_eachtoone_k38_whole_rows_read_back
set_option Elab.async false
set_option linter.all false
set_option maxRecDepth 100000
set_option maxHeartbeats 2000000
namespace PD
open PySem PySem.Spec PyProof.Rows L2
/-! ### data -/
inductive D where
  | non | bl (b : Bool) | int (i : Int) | str (w : List Nat)
  | tup (xs : List D) | lst (xs : List D)
  | dK (kvs : List (Key × D)) | dT (kvs : List (List Key × D))
  | pool
  | ty (n : String)
mutual
def imm : D → Bool
  | .non => true | .bl _ => true | .int _ => true | .str _ => true
  | .tup xs => immL xs
  | .lst _ => false | .dK _ => false | .dT _ => false
  | .pool => true
  | .ty _ => true
def immL : List D → Bool
  | [] => true
  | d :: ds => imm d && immL ds
end
def KTup (K : PySem.W.Frag) (a : Addr) (xs : List V) : Prop := ∃ (o : Obj) (its : Array Value) (n : Nat), K.lookup a = some o ∧ o.cls = .type "tuple" ∧ o.data = .seq its n ∧ its.size ≤ sizeLine ∧ Vals xs its.toList
/-- the tuples that the module's own constants may be: (), (1, (), (), ()) -/
def kc : List D → Bool
  | [] => true
  | [.int 1, .tup [], .tup [], .tup []] => true
  | _ => false
def TupAt (K : PySem.W.Frag) (B : Hp) (a : Addr) (xs : List V) (c : Bool) : Prop := B a = some (.tup xs) ∨ (c = true ∧ KTup K a xs)
theorem TupAt.sq {K : PySem.W.Frag} {B : Hp} {a : Addr} {xs : List V} {c : Bool} (h : TupAt K B a xs c) : SqT K B a xs := h.elim (fun z => .inl (.inl z)) fun z => .inr z.2
mutual
inductive Fz (K : PySem.W.Frag) (pl : Option (Addr × Addr)) (B : Hp) : V → D → Prop
  | non : Fz K pl B .non .non
  | bl (b : Bool) : Fz K pl B (.bl b) (.bl b)
  | int (i : Int) : Fz K pl B (.int i) (.int i)
  | str (w : List Nat) : Fz K pl B (.str ⟨w.toArray⟩) (.str w)
  | tup {a : Addr} {vs : List V} {ds : List D} : TupAt K B a vs (kc ds) → FzL K pl B vs ds → Fz K pl B (.ref a) (.tup ds)
  | lst {a : Addr} {vs : List V} {ds : List D} : B a = some (.lst vs) → FzL K pl B vs ds → Fz K pl B (.ref a) (.lst ds)
  | dK {a : Addr} {kvs : List (Key × V)} {kds : List (Key × D)} : Rd B a (.dK kvs) → FzK K pl B kvs kds → Fz K pl B (.ref a) (.dK kds)
  | dT {a : Addr} {kvs : List (List Key × V)} {kds : List (List Key × D)} : Rd B a (.dT kvs) → FzT K pl B kvs kds → Fz K pl B (.ref a) (.dT kds)
  | pool {a aL : Addr} : pl = some (a, aL) → Fz K pl B (.ref a) .pool
  | ty (n : String) : Fz K pl B (.ty n) (.ty n)
inductive FzL (K : PySem.W.Frag) (pl : Option (Addr × Addr)) (B : Hp) : List V → List D → Prop
  | nil : FzL K pl B [] []
  | cons {v : V} {d : D} {vs : List V} {ds : List D} : Fz K pl B v d → FzL K pl B vs ds → FzL K pl B (v :: vs) (d :: ds)
inductive FzK (K : PySem.W.Frag) (pl : Option (Addr × Addr)) (B : Hp) : List (Key × V) → List (Key × D) → Prop
  | nil : FzK K pl B [] []
  | cons {k : Key} {v : V} {d : D} {vs : List (Key × V)} {ds : List (Key × D)} : Fz K pl B v d → FzK K pl B vs ds → FzK K pl B ((k, v) :: vs) ((k, d) :: ds)
inductive FzT (K : PySem.W.Frag) (pl : Option (Addr × Addr)) (B : Hp) : List (List Key × V) → List (List Key × D) → Prop
  | nil : FzT K pl B [] []
  | cons {k : List Key} {v : V} {d : D} {vs : List (List Key × V)} {ds : List (List Key × D)} : Fz K pl B v d → FzT K pl B vs ds → FzT K pl B ((k, v) :: vs) ((k, d) :: ds)
end
def Sub (B B' : Hp) : Prop := ∀ a o, B a = some o → B' a = some o
theorem Sub.refl (B : Hp) : Sub B B := fun _ _ h => h
theorem Sub.trans {A B C : Hp} (a : Sub A B) (b : Sub B C) : Sub A C := fun x o h => b x o (a x o h)
section
variable {K : PySem.W.Frag} {pl : Option (Addr × Addr)} {B B' : Hp} {a : Addr}
theorem rd_mono {u : HO} (e : Sub B B') (h : Rd B a u) : Rd B' a u := h.elim (fun z => .inl (e _ _ z)) fun ⟨o, z⟩ => .inr ⟨o, e _ _ z⟩
theorem sqT_mono {xs : List V} (e : Sub B B') (h : SqT K B a xs) : SqT K B' a xs := h.elim (fun z => .inl (rd_mono e z)) .inr
theorem tupAt_mono {xs : List V} {c : Bool} (e : Sub B B') (h : TupAt K B a xs c) : TupAt K B' a xs c := h.elim (fun z => .inl (e _ _ z)) .inr
theorem sqL_mono {xs : List V} (e : Sub B B') (h : SqL K B a xs) : SqL K B' a xs := h.elim (fun z => .inl (rd_mono e z)) .inr
mutual
theorem Fz.mono (e : Sub B B') : ∀ {v : V} {d : D}, Fz K pl B v d → Fz K pl B' v d
  | _, _, .non => .non
  | _, _, .bl b => .bl b
  | _, _, .int i => .int i
  | _, _, .str w => .str w
  | _, _, .tup h r => .tup (tupAt_mono e h) (FzL.mono e r)
  | _, _, .lst h r => .lst (e _ _ h) (FzL.mono e r)
  | _, _, .dK h r => .dK (rd_mono e h) (FzK.mono e r)
  | _, _, .dT h r => .dT (rd_mono e h) (FzT.mono e r)
  | _, _, .pool h => .pool h
  | _, _, .ty n => .ty n
theorem FzL.mono (e : Sub B B') : ∀ {v : List V} {d : List D}, FzL K pl B v d → FzL K pl B' v d
  | _, _, .nil => .nil
  | _, _, .cons h r => .cons (Fz.mono e h) (FzL.mono e r)
theorem FzK.mono (e : Sub B B') : ∀ {v : List (Key × V)} {d : List (Key × D)}, FzK K pl B v d → FzK K pl B' v d
  | _, _, .nil => .nil
  | _, _, .cons h r => .cons (Fz.mono e h) (FzK.mono e r)
theorem FzT.mono (e : Sub B B') : ∀ {v : List (List Key × V)} {d : List (List Key × D)}, FzT K pl B v d → FzT K pl B' v d
  | _, _, .nil => .nil
  | _, _, .cons h r => .cons (Fz.mono e h) (FzT.mono e r)
end
end
end PD
set_option Elab.async false
set_option linter.all false
set_option maxRecDepth 100000
set_option maxHeartbeats 2000000
namespace PD
open PySem PySem.Spec PyProof.Rows L2
/-! ### zones -/
/-- the pool's own two objects: the cell, the script's copy -/
def Hid (pl : Option (Addr × Addr)) (a : Addr) : Prop := ∃ p, pl = some p ∧ (a = p.1 ∨ a = p.2)
open Classical in
noncomputable def vis (pl : Option (Addr × Addr)) (H : Hp) : Hp := fun a => if Hid pl a then none else H a
open Classical in
noncomputable def msk (F : Nat → List Addr) (pl : Option (Addr × Addr)) (H : Hp) : Hp := fun a => if Hid pl a ∨ ∃ i, a ∈ F i then none else H a
def isFrz : HO → Bool
  | .frz _ _ => true
  | _ => false
def nwO : Option HO → Option HO → Option HO
  | none, some (.frz _ _) => none
  | none, x => x
  | some (.tup xs), _ => some (.tup xs)
  | some _, _ => none
open Classical in
noncomputable def nw (pl : Option (Addr × Addr)) (H H' : Hp) : Hp := fun a => if Hid pl a then none else nwO (H a) (H' a)
def PoolOk (pl : Option (Addr × Addr)) (H : Hp) : Prop := ∀ a aL, pl = some (a, aL) → ∃ (ns : List Int) (i v c s : Int), aL ≠ a ∧ H a = some (.lst [.ref aL, .int i, .int v, .int c, .int s]) ∧ H aL = some (.lst (ns.map V.int)) ∧ 0 ≤ i
structure Xt (pl : Option (Addr × Addr)) (H H' : Hp) : Prop where
  sub : ∀ a o, ¬ Hid pl a → H a = some o → H' a = some o
  pool : PoolOk pl H → PoolOk pl H'
section
variable {pl : Option (Addr × Addr)} {H H1 H2 H' : Hp} {F : Nat → List Addr}
theorem Xt.refl (pl : Option (Addr × Addr)) (H : Hp) : Xt pl H H := ⟨fun _ _ _ h => h, id⟩
theorem Xt.trans (a : Xt pl H H1) (b : Xt pl H1 H2) : Xt pl H H2 := ⟨fun x o n h => b.sub x o n (a.sub x o n h), fun p => b.pool (a.pool p)⟩
theorem PoolOk.keep (h : ∀ a o, H a = some o → H' a = some o) (p : PoolOk pl H) : PoolOk pl H' := fun a aL e => by
  obtain ⟨ns, i, v, c, s, ne, h1, h2, h3⟩ := p a aL e
  exact ⟨ns, i, v, c, s, ne, h _ _ h1, h _ _ h2, h3⟩
theorem Xt.keep (h : ∀ a o, H a = some o → H' a = some o) : Xt pl H H' := ⟨fun a o _ e => h a o e, fun p => p.keep h⟩
theorem Xt.new {p : Addr} {o : HO} (h : H p = none) : Xt pl H (upd H p o) := .keep fun a u e => by
  rw [upd_ne (ne_of_none e h)]
  exact e
theorem Xt.free (e : Xt pl H H') {a : Addr} (n : ¬ Hid pl a) (h : H' a = none) : H a = none := by
  cases q : H a with
  | none => rfl
  | some o => rw [e.sub a o n q] at h; cases h
theorem vis_of {a : Addr} {o : HO} (n : ¬ Hid pl a) (h : H a = some o) : vis pl H a = some o := by unfold vis; rw [if_neg n]; exact h
theorem of_vis {a : Addr} {o : HO} (h : vis pl H a = some o) : ¬ Hid pl a ∧ H a = some o := by
  unfold vis at h
  by_cases n : Hid pl a
  · rw [if_pos n] at h; cases h
  · rw [if_neg n] at h; exact ⟨n, h⟩
theorem msk_of {a : Addr} {o : HO} (n : ¬ Hid pl a) (f : ∀ i, a ∉ F i) (h : H a = some o) : msk F pl H a = some o := by
  unfold msk
  rw [if_neg (fun z => z.elim n fun ⟨i, q⟩ => f i q)]
  exact h
theorem of_msk {a : Addr} {o : HO} (h : msk F pl H a = some o) : ¬ Hid pl a ∧ (∀ i, a ∉ F i) ∧ H a = some o := by
  unfold msk at h
  by_cases n : Hid pl a ∨ ∃ i, a ∈ F i
  · rw [if_pos n] at h; cases h
  · rw [if_neg n] at h; exact ⟨fun z => n (.inl z), fun i z => n (.inr ⟨i, z⟩), h⟩
theorem nw_new {a : Addr} {o : HO} (n : ¬ Hid pl a) (h : H a = none) (h' : H' a = some o) (z : isFrz o = false) : nw pl H H' a = some o := by
  unfold nw
  rw [if_neg n, h, h']
  cases o <;> first | rfl | cases z
theorem nw_tup {a : Addr} {xs : List V} (n : ¬ Hid pl a) (h : H a = some (.tup xs)) : nw pl H H' a = some (.tup xs) := by unfold nw; rw [if_neg n, h]; rfl
theorem of_nw {a : Addr} {o : HO} (h : nw pl H H' a = some o) : ¬ Hid pl a ∧ ((H a = none ∧ H' a = some o ∧ isFrz o = false) ∨ ∃ xs, H a = some (.tup xs) ∧ o = .tup xs) := by
  unfold nw at h
  by_cases n : Hid pl a
  · rw [if_pos n] at h; cases h
  · rw [if_neg n] at h
    refine ⟨n, ?_⟩
    cases q : H a with
    | none =>
      rw [q] at h
      cases r : H' a with
      | none => rw [r] at h; cases h
      | some u =>
        rw [r] at h
        cases u with
        | frz ob u => cases h
        | _ => cases h; exact .inl ⟨rfl, rfl, rfl⟩
    | some u =>
      rw [q] at h
      cases u with
      | tup xs => exact .inr ⟨xs, rfl, (Option.some.inj h).symm⟩
      | _ => cases h
theorem vis_mono (e : Xt pl H H') : Sub (vis pl H) (vis pl H') := fun a o h => by
  obtain ⟨n, h⟩ := of_vis h
  exact vis_of n (e.sub a o n h)
theorem msk_mono (e : Xt pl H H') : Sub (msk F pl H) (msk F pl H') := fun a o h => by
  obtain ⟨n, f, h⟩ := of_msk h
  exact msk_of n f (e.sub a o n h)
theorem msk_vis : Sub (msk F pl H) (vis pl H) := fun a o h => by
  obtain ⟨n, f, h⟩ := of_msk h
  exact vis_of n h
theorem nw_head (b : Xt pl H1 H2) : Sub (nw pl H H1) (nw pl H H2) := fun a o h => by
  obtain ⟨n, h0⟩ := of_nw h
  clear h
  rcases h0 with ⟨h, h', z⟩ | ⟨xs, h, rfl⟩
  · exact nw_new n h (b.sub a o n h') z
  · exact nw_tup n h
theorem nw_tail (b : Xt pl H H1) (c : Xt pl H1 H2) : Sub (nw pl H1 H2) (nw pl H H2) := fun a o h => by
  obtain ⟨n, h0⟩ := of_nw h
  clear h
  rcases h0 with ⟨h, h', z⟩ | ⟨xs, h, rfl⟩
  · exact nw_new n (b.free n h) h' z
  · cases q : H a with
    | none => exact nw_new n q (c.sub a _ n h) rfl
    | some u =>
      have e := b.sub a u n q
      rw [h] at e; cases e
      exact nw_tup n q
theorem nw_vis (b : Xt pl H H') : Sub (nw pl H H') (vis pl H') := fun a o h => by
  obtain ⟨n, h0⟩ := of_nw h
  clear h
  rcases h0 with ⟨h, h', z⟩ | ⟨xs, h, rfl⟩
  · exact vis_of n h'
  · exact vis_of n (b.sub a _ n h)
end
/-! ### immutable data sees tuples alone -/
section
variable {K : PySem.W.Frag} {pl : Option (Addr × Addr)} {B B' : Hp}
/-- B' has the tuples of B -/
def TSub (B B' : Hp) : Prop := ∀ a xs, B a = some (.tup xs) → B' a = some (.tup xs)
mutual
theorem Fz.imm (e : TSub B B') : ∀ {v : V} {d : D}, Fz K pl B v d → imm d = true → Fz K pl B' v d
  | _, _, .non, _ => .non
  | _, _, .bl b, _ => .bl b
  | _, _, .int i, _ => .int i
  | _, _, .str w, _ => .str w
  | _, _, .tup (ds := ds) h r, z => .tup (h.elim (fun q => .inl (e _ _ q)) .inr) (FzL.imm e r (by simpa [PD.imm] using z))
  | _, _, .lst h r, z => by simp [PD.imm] at z
  | _, _, .dK h r, z => by simp [PD.imm] at z
  | _, _, .dT h r, z => by simp [PD.imm] at z
  | _, _, .pool h, _ => .pool h
  | _, _, .ty n, _ => .ty n
theorem FzL.imm (e : TSub B B') : ∀ {v : List V} {d : List D}, FzL K pl B v d → immL d = true → FzL K pl B' v d
  | _, _, .nil, _ => .nil
  | _, _, .cons h r, z => by
    simp only [PD.immL, Bool.and_eq_true] at z
    exact .cons (Fz.imm e h z.1) (FzL.imm e r z.2)
end
end
/-! ### what owned slots hold -/
mutual
inductive Own (K : PySem.W.Frag) (pl : Option (Addr × Addr)) (B H : Hp) : List Addr → V → D → Prop
  | im {v : V} {d : D} : imm d = true → Fz K pl B v d → Own K pl B H [] v d
  | lst {a : Addr} {F : List Addr} {vs : List V} {ds : List D} : H a = some (.lst vs) → OwnL K pl B H F vs ds → Own K pl B H (a :: F) (.ref a) (.lst ds)
  | dK {a : Addr} {F : List Addr} {vs : List (Key × V)} {ds : List (Key × D)} : H a = some (.dK vs) → OwnK K pl B H F vs ds → Own K pl B H (a :: F) (.ref a) (.dK ds)
  | dT {a : Addr} {F : List Addr} {vs : List (List Key × V)} {ds : List (List Key × D)} : H a = some (.dT vs) → OwnT K pl B H F vs ds → Own K pl B H (a :: F) (.ref a) (.dT ds)
inductive OwnL (K : PySem.W.Frag) (pl : Option (Addr × Addr)) (B H : Hp) : List Addr → List V → List D → Prop
  | nil : OwnL K pl B H [] [] []
  | cons {F G : List Addr} {v : V} {d : D} {vs : List V} {ds : List D} : Own K pl B H F v d → OwnL K pl B H G vs ds → OwnL K pl B H (F ++ G) (v :: vs) (d :: ds)
inductive OwnK (K : PySem.W.Frag) (pl : Option (Addr × Addr)) (B H : Hp) : List Addr → List (Key × V) → List (Key × D) → Prop
  | nil : OwnK K pl B H [] [] []
  | cons {F G : List Addr} {k : Key} {v : V} {d : D} {vs : List (Key × V)} {ds : List (Key × D)} : Own K pl B H F v d → OwnK K pl B H G vs ds → OwnK K pl B H (F ++ G) ((k, v) :: vs) ((k, d) :: ds)
inductive OwnT (K : PySem.W.Frag) (pl : Option (Addr × Addr)) (B H : Hp) : List Addr → List (List Key × V) → List (List Key × D) → Prop
  | nil : OwnT K pl B H [] [] []
  | cons {F G : List Addr} {k : List Key} {v : V} {d : D} {vs : List (List Key × V)} {ds : List (List Key × D)} : Own K pl B H F v d → OwnT K pl B H G vs ds → OwnT K pl B H (F ++ G) ((k, v) :: vs) ((k, d) :: ds)
end
section
variable {K : PySem.W.Frag} {pl : Option (Addr × Addr)} {B B' H H' : Hp}
mutual
theorem Own.mono (e : Sub B B') : ∀ {F : List Addr} {v : V} {d : D}, Own K pl B H F v d → (∀ a ∈ F, H' a = H a) → Own K pl B' H' F v d
  | _, _, _, .im h r, _ => .im h (r.mono e)
  | _, _, _, .lst h r, k => .lst ((k _ (List.mem_cons_self ..)).trans h) (OwnL.mono e r fun a m => k a (List.mem_cons_of_mem _ m))
  | _, _, _, .dK h r, k => .dK ((k _ (List.mem_cons_self ..)).trans h) (OwnK.mono e r fun a m => k a (List.mem_cons_of_mem _ m))
  | _, _, _, .dT h r, k => .dT ((k _ (List.mem_cons_self ..)).trans h) (OwnT.mono e r fun a m => k a (List.mem_cons_of_mem _ m))
theorem OwnL.mono (e : Sub B B') : ∀ {F : List Addr} {v : List V} {d : List D}, OwnL K pl B H F v d → (∀ a ∈ F, H' a = H a) → OwnL K pl B' H' F v d
  | _, _, _, .nil, _ => .nil
  | _, _, _, .cons h r, k => .cons (Own.mono e h fun a m => k a (List.mem_append_left _ m)) (OwnL.mono e r fun a m => k a (List.mem_append_right _ m))
theorem OwnK.mono (e : Sub B B') : ∀ {F : List Addr} {v : List (Key × V)} {d : List (Key × D)}, OwnK K pl B H F v d → (∀ a ∈ F, H' a = H a) → OwnK K pl B' H' F v d
  | _, _, _, .nil, _ => .nil
  | _, _, _, .cons h r, k => .cons (Own.mono e h fun a m => k a (List.mem_append_left _ m)) (OwnK.mono e r fun a m => k a (List.mem_append_right _ m))
theorem OwnT.mono (e : Sub B B') : ∀ {F : List Addr} {v : List (List Key × V)} {d : List (List Key × D)}, OwnT K pl B H F v d → (∀ a ∈ F, H' a = H a) → OwnT K pl B' H' F v d
  | _, _, _, .nil, _ => .nil
  | _, _, _, .cons h r, k => .cons (Own.mono e h fun a m => k a (List.mem_append_left _ m)) (OwnT.mono e r fun a m => k a (List.mem_append_right _ m))
end
/-- owned data is data of the heap -/
theorem own_pl {a : Addr} {F : List Addr} (k : ∀ b ∈ a :: F, ¬ Hid pl b) : ¬ Hid pl a ∧ ∀ b ∈ F, ¬ Hid pl b := ⟨k a (List.mem_cons_self ..), fun b m => k b (List.mem_cons_of_mem _ m)⟩
mutual
theorem Own.fz (e : Sub B (vis pl H)) : ∀ {F : List Addr} {v : V} {d : D}, Own K pl B H F v d → (∀ a ∈ F, ¬ Hid pl a) → Fz K pl (vis pl H) v d
  | _, _, _, .im h r, _ => r.mono e
  | _, _, _, .lst h r, k => .lst (vis_of (own_pl k).1 h) (OwnL.fz e r (own_pl k).2)
  | _, _, _, .dK h r, k => .dK (.inl (vis_of (own_pl k).1 h)) (OwnK.fz e r (own_pl k).2)
  | _, _, _, .dT h r, k => .dT (.inl (vis_of (own_pl k).1 h)) (OwnT.fz e r (own_pl k).2)
theorem OwnL.fz (e : Sub B (vis pl H)) : ∀ {F : List Addr} {v : List V} {d : List D}, OwnL K pl B H F v d → (∀ a ∈ F, ¬ Hid pl a) → FzL K pl (vis pl H) v d
  | _, _, _, .nil, _ => .nil
  | _, _, _, .cons h r, k => .cons (Own.fz e h fun a m => k a (List.mem_append_left _ m)) (OwnL.fz e r fun a m => k a (List.mem_append_right _ m))
theorem OwnK.fz (e : Sub B (vis pl H)) : ∀ {F : List Addr} {v : List (Key × V)} {d : List (Key × D)}, OwnK K pl B H F v d → (∀ a ∈ F, ¬ Hid pl a) → FzK K pl (vis pl H) v d
  | _, _, _, .nil, _ => .nil
  | _, _, _, .cons h r, k => .cons (Own.fz e h fun a m => k a (List.mem_append_left _ m)) (OwnK.fz e r fun a m => k a (List.mem_append_right _ m))
theorem OwnT.fz (e : Sub B (vis pl H)) : ∀ {F : List Addr} {v : List (List Key × V)} {d : List (List Key × D)}, OwnT K pl B H F v d → (∀ a ∈ F, ¬ Hid pl a) → FzT K pl (vis pl H) v d
  | _, _, _, .nil, _ => .nil
  | _, _, _, .cons h r, k => .cons (Own.fz e h fun a m => k a (List.mem_append_left _ m)) (OwnT.fz e r fun a m => k a (List.mem_append_right _ m))
end
end
end PD
set_option Elab.async false
set_option linter.all false
set_option maxRecDepth 100000
set_option maxHeartbeats 2000000
namespace PD
open PySem PySem.Spec PyProof.Rows L2
/-! ### states -/
structure Cn where
  K : PySem.W.Frag
  pl : Option (Addr × Addr)
  M : Nat → Bool
inductive Zn where | e | f | n
noncomputable def reg (z : Zn) (F : Nat → List Addr) (pl : Option (Addr × Addr)) (H H' : Hp) : Hp := match z with
  | .e => vis pl H'
  | .f => msk F pl H'
  | .n => nw pl H H'
abbrev DEnv := List (Option D)
def isTupO : HO → Bool
  | .tup _ => true
  | .frz _ _ => true
  | _ => false
structure SR (C : Cn) (H0 : Hp) (F : Nat → List Addr) (σ : L2.St) (H : Hp) (δ : DEnv) : Prop where
  len : σ.length = δ.length
  nod : ∀ i, (F i).Nodup
  dis : ∀ i j a, a ∈ F i → a ∈ F j → i = j
  fre : ∀ i, i < σ.length → C.M i = false → F i = []
  dom : ∀ i a, a ∈ F i → ¬ Hid C.pl a ∧ ∃ o, H a = some o ∧ isTupO o = false
  bas : Sub (vis C.pl H0) (msk F C.pl H)
  frz : ∀ i d, C.M i = false → δ[i]? = some (some d) → ∃ v, σ[i]? = some (some v) ∧ Fz C.K C.pl (msk F C.pl H) v d
  own : ∀ i d, C.M i = true → δ[i]? = some (some d) → ∃ v, σ[i]? = some (some v) ∧ Own C.K C.pl (msk F C.pl H) H (F i) v d
  pol : PoolOk C.pl H
section
variable {C : Cn} {H0 H H1 H2 H' : Hp} {F : Nat → List Addr} {σ : L2.St} {δ : DEnv}
theorem SR.ext (S : SR C H0 F σ H δ) (e : Xt C.pl H H') : SR C H0 F σ H' δ where
  len := S.len
  nod := S.nod
  dis := S.dis
  fre := S.fre
  dom := fun i a m => by
    obtain ⟨n, o, h, t⟩ := S.dom i a m
    exact ⟨n, o, e.sub a o n h, t⟩
  bas := S.bas.trans (msk_mono e)
  frz := fun i d m h => by
    obtain ⟨v, h1, h2⟩ := S.frz i d m h
    exact ⟨v, h1, h2.mono (msk_mono e)⟩
  own := fun i d m h => by
    obtain ⟨v, h1, h2⟩ := S.own i d m h
    refine ⟨v, h1, h2.mono (msk_mono e) fun a q => ?_⟩
    obtain ⟨n, o, h, t⟩ := S.dom i a q
    rw [h, e.sub a o n h]
  pol := e.pool S.pol
theorem SR.h0 (S : SR C H0 F σ H δ) : Xt C.pl H0 H → Xt C.pl H0 H := id
theorem nw_msk (S : SR C H0 F σ H δ) (e : Xt C.pl H H') : Sub (nw C.pl H H') (msk F C.pl H') := fun a o h => by
  obtain ⟨n, h0⟩ := of_nw h
  clear h
  rcases h0 with ⟨h, h', _⟩ | ⟨xs, h, rfl⟩
  · refine msk_of n (fun i m => ?_) h'
    obtain ⟨_, u, q, _⟩ := S.dom i a m
    rw [h] at q; cases q
  · refine msk_of n (fun i m => ?_) (e.sub a _ n h)
    obtain ⟨_, u, q, t⟩ := S.dom i a m
    rw [h] at q; cases q; cases t
theorem reg_vis {z : Zn} (e : Xt C.pl H H') : Sub (reg z F C.pl H H') (vis C.pl H') := by
  cases z with
  | e => exact Sub.refl _
  | f => exact msk_vis
  | n => exact nw_vis e
theorem reg_head {z : Zn} (e : Xt C.pl H1 H2) : Sub (reg z F C.pl H H1) (reg z F C.pl H H2) := by
  cases z with
  | e => exact vis_mono e
  | f => exact msk_mono e
  | n => exact nw_head e
theorem reg_tail {z : Zn} (b : Xt C.pl H H1) (e : Xt C.pl H1 H2) : Sub (reg z F C.pl H1 H2) (reg z F C.pl H H2) := by
  cases z with
  | e => exact Sub.refl _
  | f => exact Sub.refl _
  | n => exact nw_tail b e
theorem reg_n {z : Zn} (S : SR C H0 F σ H δ) (e : Xt C.pl H H') : Sub (nw C.pl H H') (reg z F C.pl H H') := by
  cases z with
  | e => exact nw_vis e
  | f => exact nw_msk S e
  | n => exact Sub.refl _
/-- tuples are seen in each zone -/
theorem tsub_nw (e : Xt C.pl H H') : TSub (vis C.pl H') (nw C.pl H H') := fun a xs h => by
  obtain ⟨n, q⟩ := of_vis h
  cases r : H a with
  | none => exact nw_new n r q rfl
  | some u =>
    have z := e.sub a u n r
    rw [q] at z; cases z
    exact nw_tup n r
end
end PD
set_option Elab.async false
set_option linter.all false
set_option maxRecDepth 100000
set_option maxHeartbeats 2000000
namespace PD
open PySem PySem.Spec PyProof.Rows L2
/-! ### meanings over data, and their lifts to readings -/
abbrev DE := DEnv → (D → Prop) → Prop
abbrev DTt := DEnv → (Bool → Prop) → Prop
abbrev DA := DEnv → (List D → Prop) → Prop
abbrev DO := DEnv → (Option Int → Prop) → Prop
abbrev DG := D → DEnv → (DEnv → Prop) → Prop
structure DEnds where
  nx : DEnv → Prop
  rt : D → Prop
  bk : DEnv → Prop := fun _ => False
  ct : DEnv → Prop := fun _ => False
abbrev DS := DEnds → DEnv → Prop
def lift (C : Cn) (z : Zn) (t : DE) : TE := fun σ H Q => ∃ H0 F δ R, SR C H0 F σ H δ ∧ t δ R ∧ ∀ d v H', R d → Xt C.pl H H' → Fz C.K C.pl (reg z F C.pl H H') v d → Q v H'
def liftT (C : Cn) (t : DTt) : TT := fun σ H Q => ∃ H0 F δ R, SR C H0 F σ H δ ∧ t δ R ∧ ∀ b H', R b → Xt C.pl H H' → Q b H'
def liftA (C : Cn) (z : Zn) (t : DA) : TA := fun σ H Q => ∃ H0 F δ R, SR C H0 F σ H δ ∧ t δ R ∧ ∀ ds vs H', R ds → Xt C.pl H H' → FzL C.K C.pl (reg z F C.pl H H') vs ds → Q vs H'
def liftO (C : Cn) (t : DO) : TO := fun σ H Q => ∃ H0 F δ R, SR C H0 F σ H δ ∧ t δ R ∧ ∀ o H', R o → Xt C.pl H H' → Q o H'
theorem pe_of {X : Cx} {e : Expr} {t t' : TE} (p : PE X e t') (h : ∀ σ H Q, t σ H Q → t' σ H Q) : PE X e t := ⟨fun pins s σ H Q I q => p.run pins s σ H Q I (h σ H Q q)⟩
theorem pt_of {X : Cx} {e : Expr} {t t' : TT} (p : PT X e t') (h : ∀ σ H Q, t σ H Q → t' σ H Q) : PT X e t := ⟨fun pins s σ H Q I q => p.run pins s σ H Q I (h σ H Q q)⟩
theorem pw_of {X : Cx} {e : Expr} {t t' : TT} (p : PW X e t') (h : ∀ σ H Q, t σ H Q → t' σ H Q) : PW X e t := ⟨fun w pins s σ H Q I q => p.run w pins s σ H Q I (h σ H Q q)⟩
theorem pa_of {X : Cx} {e : List Expr} {t t' : TA} (p : PA X e t') (h : ∀ σ H Q, t σ H Q → t' σ H Q) : PA X e t := ⟨fun pos pins s σ H Q I q => p.run pos pins s σ H Q I (h σ H Q q)⟩
theorem po_of {X : Cx} {e : Option Expr} {t t' : TO} (p : PO X e t') (h : ∀ σ H Q, t σ H Q → t' σ H Q) : PO X e t := ⟨fun pins s σ H Q I q => p.run pins s σ H Q I (h σ H Q q)⟩
theorem ps_of {X : Cx} {e : Stmt} {t t' : TS} (p : PS X e t') (h : ∀ D σ H, t D σ H → t' D σ H) : PS X e t := ⟨fun pins s σ H D I q => p.run pins s σ H D I (h D σ H q)⟩
theorem pss_of {X : Cx} {e : List Stmt} {t t' : TS} (p : PSs X e t') (h : ∀ D σ H, t D σ H → t' D σ H) : PSs X e t := ⟨fun pins s σ H D I q => p.run pins s σ H D I (h D σ H q)⟩
theorem pi_of {X : Cx} {tg e : Expr} {t t' : TI} (p : PI X tg e t') (h : ∀ σ H R, t σ H R → t' σ H R) : PI X tg e t := ⟨fun pins s σ H R I q => p.run pins s σ H R I (h σ H R q)⟩
theorem pg_of {X : Cx} {tg : Expr} {t t' : TG} (p : PG X tg t') (h : ∀ v σ H Q, t v σ H Q → t' v σ H Q) : PG X tg t := ⟨fun pins s σ H v u Q I r q => p.run pins s σ H v u Q I r (h v σ H Q q)⟩
section
variable {C : Cn} {H0 H H1 H2 H' : Hp} {F : Nat → List Addr} {σ : L2.St} {δ : DEnv} {Q : VK} {ta tb tc : DE} {z : Zn}
/-! ### zones of expressions -/
theorem cv_wk (z : Zn) : lift C z ta σ H Q → lift C .n ta σ H Q := fun ⟨H0, F, δ, R, S, h, q⟩ => ⟨H0, F, δ, R, S, h, fun d v H' r e f => q d v H' r e (f.mono (reg_n S e))⟩
theorem cv_fe : lift C .e ta σ H Q → lift C .f ta σ H Q := fun ⟨H0, F, δ, R, S, h, q⟩ => ⟨H0, F, δ, R, S, h, fun d v H' r e f => q d v H' r e (f.mono msk_vis)⟩
def dImm (t : DE) : DE := fun δ R => t δ fun d => imm d = true ∧ R d
theorem cv_imm : lift C .n (dImm ta) σ H Q → lift C .e ta σ H Q := fun ⟨H0, F, δ, R, S, h, q⟩ => ⟨H0, F, δ, _, S, h, fun d v H' r e f => q d v H' r.2 e (f.imm (tsub_nw e) r.1)⟩
/-! ### names, constants -/
def dVar (i : Nat) : DE := fun δ R => ∃ d, δ[i]? = some (some d) ∧ R d
theorem SR.at_ (S : SR C H0 F σ H δ) {i : Nat} {d : D} (h : δ[i]? = some (some d)) : ∃ v, σ[i]? = some (some v) ∧ Fz C.K C.pl (vis C.pl H) v d := by
  cases m : C.M i with
  | false =>
    obtain ⟨v, h1, h2⟩ := S.frz i d m h
    exact ⟨v, h1, h2.mono msk_vis⟩
  | true =>
    obtain ⟨v, h1, h2⟩ := S.own i d m h
    exact ⟨v, h1, h2.fz msk_vis fun a q => (S.dom i a q).1⟩
theorem cv_varF {i : Nat} (hM : C.M i = false) : lift C .f (dVar i) σ H Q → tVar i σ H Q := fun ⟨H0, F, δ, R, S, ⟨d, h, r⟩, q⟩ => by
  obtain ⟨v, h1, h2⟩ := S.frz i d hM h
  exact ⟨v, h1, q d v H r (Xt.refl _ _) h2⟩
theorem cv_varE {i : Nat} : lift C .e (dVar i) σ H Q → tVar i σ H Q := fun ⟨H0, F, δ, R, S, ⟨d, h, r⟩, q⟩ => by
  obtain ⟨v, h1, h2⟩ := S.at_ h
  exact ⟨v, h1, q d v H r (Xt.refl _ _) h2⟩
def dC (d : D) : DE := fun _ R => R d
theorem cv_int {i : Int} : lift C .n (dC (.int i)) σ H Q → tC (.int i) σ H Q := fun ⟨H0, F, δ, R, S, h, q⟩ => q _ _ H h (Xt.refl _ _) (.int i)
theorem cv_bl {b : Bool} : lift C .n (dC (.bl b)) σ H Q → tC (.bl b) σ H Q := fun ⟨H0, F, δ, R, S, h, q⟩ => q _ _ H h (Xt.refl _ _) (.bl b)
theorem cv_non : lift C .n (dC .non) σ H Q → tC .non σ H Q := fun ⟨H0, F, δ, R, S, h, q⟩ => q _ _ H h (Xt.refl _ _) .non
theorem cv_str {x : Str} (w : List Nat) (e : x = ⟨w.toArray⟩) : lift C .n (dC (.str w)) σ H Q → tC (.str x) σ H Q := fun ⟨H0, F, δ, R, S, h, q⟩ => by
  subst e
  exact q _ _ H h (Xt.refl _ _) (.str w)
/-! ### operations on values -/
def dOp (f : D → D → (D → Prop) → Prop) (ta tb : DE) : DE := fun δ R => ta δ fun d => tb δ fun e => f d e R
def OpD (K : PySem.W.Frag) (pl : Option (Addr × Addr)) (r : R2) (f : D → D → (D → Prop) → Prop) : Prop := ∀ (x y : V) (d e : D) (H : Hp) (Q : VK) (R : D → Prop), PoolOk pl H → Fz K pl (vis pl H) x d → Fz K pl (vis pl H) y e → f d e R →
  (∀ g v H', R g → Xt pl H H' → Fz K pl (nw pl H H') v g → Q v H') → r x y H Q
theorem cv_op {r : R2} {f : D → D → (D → Prop) → Prop} (o : OpD C.K C.pl r f) : lift C .n (dOp f ta tb) σ H Q → tOp r (lift C .e ta) (lift C .e tb) σ H Q := fun ⟨H0, F, δ, R, S, h, q⟩ =>
  ⟨H0, F, δ, _, S, h, fun d v H1 r1 e1 f1 => ⟨H0, F, δ, _, S.ext e1, r1, fun d2 v2 H2 r2 e2 f2 => o v v2 d d2 H2 Q R ((S.ext e1).ext e2).pol (f1.mono (vis_mono e2)) f2 r2 fun g u H3 r3 e3 f3 =>
    q g u H3 r3 ((e1.trans e2).trans e3) (f3.mono (nw_tail (e1.trans e2) e3))⟩⟩
def dUn (f : D → (D → Prop) → Prop) (ta : DE) : DE := fun δ R => ta δ fun d => f d R
def UnD (K : PySem.W.Frag) (pl : Option (Addr × Addr)) (r : V → Hp → VK → Prop) (f : D → (D → Prop) → Prop) : Prop := ∀ (x : V) (d : D) (H : Hp) (Q : VK) (R : D → Prop), PoolOk pl H → Fz K pl (vis pl H) x d → f d R →
  (∀ g v H', R g → Xt pl H H' → Fz K pl (nw pl H H') v g → Q v H') → r x H Q
theorem cv_un {r : V → Hp → VK → Prop} {f : D → (D → Prop) → Prop} (o : UnD C.K C.pl r f) : lift C .n (dUn f ta) σ H Q → tUn r (lift C .e ta) σ H Q := fun ⟨H0, F, δ, R, S, h, q⟩ =>
  ⟨H0, F, δ, _, S, h, fun d v H1 r1 e1 f1 => o v d H1 Q R (S.ext e1).pol f1 r1 fun g u H3 r3 e3 f3 => q g u H3 r3 (e1.trans e3) (f3.mono (nw_tail e1 e3))⟩
def dCB (f : List D → (D → Prop) → Prop) (ta : DA) : DE := fun δ R => ta δ fun ds => f ds R
def CaD (K : PySem.W.Frag) (pl : Option (Addr × Addr)) (r : List V → Hp → VK → Prop) (f : List D → (D → Prop) → Prop) : Prop := ∀ (xs : List V) (ds : List D) (H : Hp) (Q : VK) (R : D → Prop), PoolOk pl H → FzL K pl (vis pl H) xs ds → f ds R →
  (∀ g v H', R g → Xt pl H H' → Fz K pl (nw pl H H') v g → Q v H') → r xs H Q
theorem cv_cb {r : List V → Hp → VK → Prop} {f : List D → (D → Prop) → Prop} {t : DA} (o : CaD C.K C.pl r f) : lift C .n (dCB f t) σ H Q → tCB r (liftA C .e t) σ H Q := fun ⟨H0, F, δ, R, S, h, q⟩ =>
  ⟨H0, F, δ, _, S, h, fun ds vs H1 r1 e1 f1 => o vs ds H1 Q R (S.ext e1).pol f1 r1 fun g u H3 r3 e3 f3 => q g u H3 r3 (e1.trans e3) (f3.mono (nw_tail e1 e3))⟩
/-! ### arguments -/
def dNil : DA := fun _ R => R []
def dCons (ta : DE) (t : DA) : DA := fun δ R => ta δ fun d => t δ fun ds => R (d :: ds)
variable {t : DA} {QA : List V → Hp → Prop}
theorem cv_nil : liftA C z dNil σ H QA → tNil σ H QA := fun ⟨H0, F, δ, R, S, h, q⟩ => q [] [] H h (Xt.refl _ _) .nil
theorem cv_cons : liftA C z (dCons ta t) σ H QA → tCons (lift C z ta) (liftA C z t) σ H QA := fun ⟨H0, F, δ, R, S, h, q⟩ =>
  ⟨H0, F, δ, _, S, h, fun d v H1 r1 e1 f1 => ⟨H0, F, δ, _, S.ext e1, r1, fun ds vs H2 r2 e2 f2 => q _ _ H2 r2 (e1.trans e2) (.cons (f1.mono (reg_head e2)) (f2.mono (reg_tail e1 e2)))⟩⟩
theorem pa_nilD {X : Cx} : PA X [] (liftA C z dNil) := pa_of pa_nil fun _ _ _ h => cv_nil h
theorem pa_consD {X : Cx} {e : Expr} {es : List Expr} (h1 : PE X e (lift C z ta)) (h2 : PA X es (liftA C z t)) (hs : starEach (e :: es) X.env = (false, eval e X.env) :: starEach es X.env := by rfl) : PA X (e :: es) (liftA C z (dCons ta t)) := pa_of (pa_cons h1 h2 hs) fun _ _ _ h => cv_cons h
/-! ### new objects -/
theorem SR.notpool (S : SR C H0 F σ H δ) {p : Addr} (n : H p = none) : ¬ Hid C.pl p := fun ⟨⟨a, aL⟩, e, h⟩ => by
  obtain ⟨_, _, _, _, _, _, q1, q2, _⟩ := S.pol a aL e
  rcases h with h | h
  · rw [show p = a from h, q1] at n; cases n
  · rw [show p = aL from h, q2] at n; cases n
theorem reg_new {o : HO} {p : Addr} (S : SR C H0 F σ H δ) (e : Xt C.pl H H1) (n : H1 p = none) (nz : isFrz o = false := by rfl) : reg z F C.pl H (upd H1 p o) p = some o := by
  have np := (S.ext e).notpool n
  cases z with
  | e => exact vis_of np upd_same
  | f =>
    refine msk_of np (fun i m => ?_) upd_same
    obtain ⟨_, u, q, _⟩ := (S.ext e).dom i p m
    rw [n] at q; cases q
  | n =>
    show nw C.pl H (upd H1 p o) p = some o
    exact nw_new np (e.free np n) upd_same nz
def dTup (t : DA) : DE := fun δ R => t δ fun ds => ds.length ≤ sizeLine ∧ R (.tup ds)
def dLst (t : DA) : DE := fun δ R => t δ fun ds => ds.length ≤ sizeLine ∧ R (.lst ds)
theorem FzL.len {K : PySem.W.Frag} {pl : Option (Addr × Addr)} {B : Hp} : ∀ {vs : List V} {ds : List D}, FzL K pl B vs ds → vs.length = ds.length
  | _, _, .nil => rfl
  | _, _, .cons _ r => congrArg (· + 1) (FzL.len r)
theorem cv_tup : lift C z (dTup t) σ H Q → tTup (liftA C z t) σ H Q := fun ⟨H0, F, δ, R, S, h, q⟩ =>
  ⟨H0, F, δ, _, S, h, fun ds vs H1 r1 e1 f1 => ⟨by rw [f1.len]; exact r1.1, fun p n => q _ _ _ r1.2 (e1.trans (.new n)) (.tup (.inl (reg_new S e1 n)) (f1.mono (reg_head (.new n))))⟩⟩
theorem cv_lst : lift C z (dLst t) σ H Q → tLst (liftA C z t) σ H Q := fun ⟨H0, F, δ, R, S, h, q⟩ =>
  ⟨H0, F, δ, _, S, h, fun ds vs H1 r1 e1 f1 => ⟨by rw [f1.len]; exact r1.1, fun p n => q _ _ _ r1.2 (e1.trans (.new n)) (.lst (reg_new S e1 n) (f1.mono (reg_head (.new n))))⟩⟩
theorem cv_dnewK : lift C .n (dC (.dK [])) σ H Q → tDNewK σ H Q := fun ⟨H0, F, δ, R, S, h, q⟩ => fun p n => q _ _ _ h (.new n) (.dK (.inl (reg_new S (Xt.refl _ _) n)) .nil)
theorem cv_dnewT : lift C .n (dC (.dT [])) σ H Q → tDNewT σ H Q := fun ⟨H0, F, δ, R, S, h, q⟩ => fun p n => q _ _ _ h (.new n) (.dT (.inl (reg_new S (Xt.refl _ _) n)) .nil)
/-! ### items, slices -/
theorem FzL.at_ {K : PySem.W.Frag} {pl : Option (Addr × Addr)} {B : Hp} : ∀ {vs : List V} {ds : List D} {i : Nat} {d : D}, FzL K pl B vs ds → ds[i]? = some d → ∃ v, vs[i]? = some v ∧ Fz K pl B v d
  | _, _, i, d, .nil, h => by simp at h
  | _, _, 0, d, .cons f r, h => by
    simp only [List.getElem?_cons_zero, Option.some.injEq] at h
    subst h
    exact ⟨_, rfl, f⟩
  | _, _, i + 1, d, .cons f r, h => by
    simp only [List.getElem?_cons_succ] at h
    obtain ⟨v, h1, h2⟩ := FzL.at_ r h
    exact ⟨v, by simpa using h1, h2⟩
theorem FzL.drop {K : PySem.W.Frag} {pl : Option (Addr × Addr)} {B : Hp} : ∀ {vs : List V} {ds : List D} (n : Nat), FzL K pl B vs ds → FzL K pl B (vs.drop n) (ds.drop n)
  | _, _, 0, r => r
  | _, _, _ + 1, .nil => .nil
  | _, _, n + 1, .cons _ r => FzL.drop n r
theorem FzL.take {K : PySem.W.Frag} {pl : Option (Addr × Addr)} {B : Hp} : ∀ {vs : List V} {ds : List D} (n : Nat), FzL K pl B vs ds → FzL K pl B (vs.take n) (ds.take n)
  | _, _, 0, _ => .nil
  | _, _, _ + 1, .nil => .nil
  | _, _, n + 1, .cons f r => .cons f (FzL.take n r)
theorem FzL.append {K : PySem.W.Frag} {pl : Option (Addr × Addr)} {B : Hp} : ∀ {vs ws : List V} {ds es : List D}, FzL K pl B vs ds → FzL K pl B ws es → FzL K pl B (vs ++ ws) (ds ++ es)
  | _, _, _, _, .nil, r => r
  | _, _, _, _, .cons f r, s => .cons f (FzL.append r s)
def cutL {α : Type} (xs : List α) (lo hi : Option Int) : List α := (xs.drop (HT.sIx xs.length 0 lo)).take (HT.sIx xs.length xs.length hi - HT.sIx xs.length 0 lo)
def fSub : D → D → (D → Prop) → Prop
  | .tup ds, .int i, R => ∃ d, atI ds i = some d ∧ R d
  | .lst ds, .int i, R => ∃ d, atI ds i = some d ∧ R d
  | .str w, .int i, R => w.length ≤ sizeLine ∧ ∃ c, atI w i = some c ∧ R (.str [c])
  | _, _, _ => False
theorem atI_fz {K : PySem.W.Frag} {pl : Option (Addr × Addr)} {B : Hp} {vs : List V} {ds : List D} {i : Int} {d : D} (f : FzL K pl B vs ds) (h : atI ds i = some d) : ∃ v, atI vs i = some v ∧ Fz K pl B v d := by
  unfold atI at h ⊢
  rw [f.len]
  cases q : ixN ds.length i with
  | none => rw [q] at h; cases h
  | some j =>
    rw [q] at h
    exact f.at_ h
theorem cv_ix : lift C z (dOp fSub ta tb) σ H Q → tOp (rIx C.K) (lift C z ta) (lift C .e tb) σ H Q := fun ⟨H0, F, δ, R, S, h, q⟩ =>
  ⟨H0, F, δ, _, S, h, fun d v H1 r1 e1 f1 => ⟨H0, F, δ, _, S.ext e1, r1, fun d2 v2 H2 r2 e2 f2 => by
    have f1' := f1.mono (reg_head (z := z) (F := F) e2)
    have e12 := e1.trans e2
    cases d with
    | tup ds =>
      cases d2 with
      | int i =>
        obtain ⟨g, hg, rg⟩ := r2
        cases f1' with
        | tup ha fl =>
          cases f2
          obtain ⟨u, hu, fu⟩ := atI_fz fl hg
          exact .inr (.inl ⟨_, _, i, u, rfl, rfl, (tupAt_mono (reg_vis e12) ha).sq.elim (fun z => .inl (z.elim (fun y => .inl (of_vis y).2) fun ⟨o, y⟩ => .inr ⟨o, (of_vis y).2⟩)) .inr, hu, q g u H2 rg e12 fu⟩)
      | _ => exact r2.elim
    | lst ds =>
      cases d2 with
      | int i =>
        obtain ⟨g, hg, rg⟩ := r2
        cases f1' with
        | lst ha fl =>
          cases f2
          obtain ⟨u, hu, fu⟩ := atI_fz fl hg
          exact .inl ⟨_, _, i, u, rfl, rfl, .inl (.inl (of_vis (reg_vis e12 _ _ ha)).2), hu, q g u H2 rg e12 fu⟩
      | _ => exact r2.elim
    | str w =>
      cases d2 with
      | int i =>
        obtain ⟨hl, c, hc, rg⟩ := r2
        cases f1'
        cases f2
        exact .inr (.inr ⟨_, i, c, rfl, rfl, by simpa [Str.length] using hl, by simpa using hc, q _ _ H2 rg e12 (.str [c])⟩)
      | _ => exact r2.elim
    | _ => cases d2 <;> exact r2.elim⟩⟩
end
end PD
set_option Elab.async false
set_option linter.all false
set_option maxRecDepth 100000
set_option maxHeartbeats 2000000
namespace PD
open PySem PySem.Spec PyProof.Rows L2
section
variable {C : Cn} {H0 H H1 H2 H' : Hp} {F : Nat → List Addr} {σ : L2.St} {δ : DEnv} {Q : VK} {ta tb tc : DE} {z : Zn} {t : DA} {QT : Bool → Hp → Prop} {QO : Option Int → Hp → Prop}
/-! ### slices -/
def dNoPart : DO := fun _ R => R none
def dPart (ta : DE) : DO := fun δ R => ta δ fun d => ∃ i, d = .int i ∧ R (some i)
theorem cv_noPart : liftO C dNoPart σ H QO → tNoPart σ H QO := fun ⟨H0, F, δ, R, S, h, q⟩ => q none H h (Xt.refl _ _)
theorem cv_part : liftO C (dPart ta) σ H QO → tPart (lift C .e ta) σ H QO := fun ⟨H0, F, δ, R, S, h, q⟩ =>
  ⟨H0, F, δ, _, S, h, fun d v H1 r1 e1 f1 => by
    obtain ⟨i, rfl, r⟩ := r1
    cases f1
    exact ⟨i, rfl, q _ H1 r e1⟩⟩
def fSl : D → Option Int → Option Int → (D → Prop) → Prop
  | .str w, lo, hi, R => w.length ≤ sizeLine ∧ R (.str (cutL w lo hi))
  | .lst ds, lo, hi, R => R (.lst (cutL ds lo hi))
  | .tup ds, lo, hi, R => R (.tup (cutL ds lo hi))
  | _, _, _, _ => False
def dSl (ta : DE) (tl th : DO) : DE := fun δ R => ta δ fun d => tl δ fun lo => th δ fun hi => fSl d lo hi R
def rSlAny (K : PySem.W.Frag) : V → Option Int → Option Int → Hp → VK → Prop := fun x lo hi H Q => rSlL K x lo hi H Q ∨ (fun x lo hi H Q => rSlS x lo hi H Q ∨ rSlA K x lo hi H Q) x lo hi H Q
theorem sl_any {X : Cx} : SlR X (rSlAny X.K) := SlR.or sl_list (SlR.or sl_str sl_tupA)
theorem FzL.cut {K : PySem.W.Frag} {pl : Option (Addr × Addr)} {B : Hp} {vs : List V} {ds : List D} {lo hi : Option Int} (f : FzL K pl B vs ds) : FzL K pl B (cutV vs lo hi) (cutL ds lo hi) := by
  unfold cutV cutL
  rw [f.len]
  exact (f.drop _).take _
theorem reg_of_vis (e : Xt C.pl H H1) {a : Addr} {o : HO} (h : reg z F C.pl H H1 a = some o) : ¬ Hid C.pl a ∧ H1 a = some o := of_vis (reg_vis e a o h)
theorem cv_sl {tl th : DO} : lift C z (dSl ta tl th) σ H Q → tSl (rSlAny C.K) (lift C z ta) (liftO C tl) (liftO C th) σ H Q := fun ⟨H0, F, δ, R, S, h, q⟩ =>
  ⟨H0, F, δ, _, S, h, fun d v H1 r1 e1 f1 => ⟨H0, F, δ, _, S.ext e1, r1, fun lo H2 r2 e2 => ⟨H0, F, δ, _, (S.ext e1).ext e2, r2, fun hi H3 r3 e3 => by
    have f3 := f1.mono (reg_head (z := z) (F := F) (e2.trans e3))
    have e13 := e1.trans (e2.trans e3)
    cases d with
    | str w =>
      cases f3
      exact .inr (.inl ⟨_, rfl, by simpa [Str.length] using r3.1, q _ _ H3 r3.2 e13 (by
        have e : cutS ⟨w.toArray⟩ lo hi = ⟨(cutL w lo hi).toArray⟩ := by
          unfold cutS cutL
          simp [Str.length]
        rw [e]
        exact .str _)⟩)
    | lst ds =>
      cases f3 with
      | lst ha fl => exact .inl ⟨_, _, rfl, .inl (.inl (reg_of_vis e13 ha).2), fun p n => q _ _ _ r3 (e13.trans (.new n)) (.lst (reg_new S e13 n) (fl.cut.mono (reg_head (.new n))))⟩
    | tup ds =>
      cases f3 with
      | tup ha fl =>
        refine .inr (.inr ⟨_, _, rfl, (tupAt_mono (reg_vis e13) ha).sq.elim (fun z => .inl (z.elim (fun y => .inl (of_vis y).2) fun ⟨o, y⟩ => .inr ⟨o, (of_vis y).2⟩)) .inr, fun w => ?_, fun _ p n => q _ _ _ r3 (e13.trans (.new n)) (.tup (.inl (reg_new S e13 n)) (fl.cut.mono (reg_head (.new n))))⟩)
        have e : cutL ds lo hi = ds := by
          unfold cutL
          rw [fl.len] at w
          rw [w.1, w.2]
          simp
        have r4 : R (.tup (cutL ds lo hi)) := r3
        rw [e] at r4
        exact q _ _ H3 r4 e13 (.tup ha fl)
    | _ => exact r3.elim⟩⟩⟩
/-! ### tests -/
def dTest (ta : DE) : DTt := fun δ R => ta δ fun d => ∃ b, d = .bl b ∧ R b
theorem cv_tB : liftT C (dTest ta) σ H QT → tB (lift C .e ta) σ H QT := fun ⟨H0, F, δ, R, S, h, q⟩ =>
  ⟨H0, F, δ, _, S, h, fun d v H1 r1 e1 f1 => by
    obtain ⟨b, rfl, r⟩ := r1
    cases f1
    exact ⟨b, rfl, q b H1 r e1⟩⟩
theorem cv_tTest : liftT C (dTest ta) σ H QT → tTest (lift C .e ta) σ H QT := cv_tB
def dAnd (t u : DTt) : DTt := fun δ R => t δ fun b => if b = true then u δ R else R false
def dOr (t u : DTt) : DTt := fun δ R => t δ fun b => if b = true then R true else u δ R
def dNot (t : DTt) : DTt := fun δ R => t δ fun b => R (!b)
def dYes : DTt := fun _ R => R true
variable {u1 u2 : DTt}
theorem cv_and : liftT C (dAnd u1 u2) σ H QT → tAnd (liftT C u1) (liftT C u2) σ H QT := fun ⟨H0, F, δ, R, S, h, q⟩ =>
  ⟨H0, F, δ, _, S, h, fun b H1 r1 e1 => by
    cases b with
    | true => exact ⟨H0, F, δ, _, S.ext e1, r1, fun b H2 r2 e2 => q b H2 r2 (e1.trans e2)⟩
    | false => exact q false H1 r1 e1⟩
theorem cv_or : liftT C (dOr u1 u2) σ H QT → tOr (liftT C u1) (liftT C u2) σ H QT := fun ⟨H0, F, δ, R, S, h, q⟩ =>
  ⟨H0, F, δ, _, S, h, fun b H1 r1 e1 => by
    cases b with
    | false => exact ⟨H0, F, δ, _, S.ext e1, r1, fun b H2 r2 e2 => q b H2 r2 (e1.trans e2)⟩
    | true => exact q true H1 r1 e1⟩
theorem cv_not : liftT C (dNot u1) σ H QT → tNot (liftT C u1) σ H QT := fun ⟨H0, F, δ, R, S, h, q⟩ => ⟨H0, F, δ, _, S, h, fun b H1 r1 e1 => q _ H1 r1 e1⟩
theorem cv_yes : liftT C dYes σ H QT → tYes σ H QT := fun ⟨H0, F, δ, R, S, h, q⟩ => q true H h (Xt.refl _ _)
def dAndV (ta tb : DE) : DE := fun δ R => ta δ fun d => ∃ b, d = .bl b ∧ if b = true then tb δ R else R (.bl false)
def dOrV (ta tb : DE) : DE := fun δ R => ta δ fun d => ∃ b, d = .bl b ∧ if b = true then R (.bl true) else tb δ R
def dNotV (ta : DE) : DE := fun δ R => ta δ fun d => ∃ b, d = .bl b ∧ R (.bl (!b))
theorem cv_andV : lift C .n (dAndV ta tb) σ H Q → tAndV (lift C .e ta) (lift C .n tb) σ H Q := fun ⟨H0, F, δ, R, S, h, q⟩ =>
  ⟨H0, F, δ, _, S, h, fun d v H1 r1 e1 f1 => by
    obtain ⟨b, rfl, r⟩ := r1
    cases f1
    refine ⟨b, rfl, ?_⟩
    cases b with
    | true => exact ⟨H0, F, δ, _, S.ext e1, r, fun d v H2 r2 e2 f2 => q d v H2 r2 (e1.trans e2) (f2.mono (nw_tail e1 e2))⟩
    | false => exact q _ _ H1 r e1 (.bl false)⟩
theorem cv_orV : lift C .n (dOrV ta tb) σ H Q → tOrV (lift C .e ta) (lift C .n tb) σ H Q := fun ⟨H0, F, δ, R, S, h, q⟩ =>
  ⟨H0, F, δ, _, S, h, fun d v H1 r1 e1 f1 => by
    obtain ⟨b, rfl, r⟩ := r1
    cases f1
    refine ⟨b, rfl, ?_⟩
    cases b with
    | false => exact ⟨H0, F, δ, _, S.ext e1, r, fun d v H2 r2 e2 f2 => q d v H2 r2 (e1.trans e2) (f2.mono (nw_tail e1 e2))⟩
    | true => exact q _ _ H1 r e1 (.bl true)⟩
theorem cv_notV : lift C .n (dNotV ta) σ H Q → tNotV (lift C .e ta) σ H Q := fun ⟨H0, F, δ, R, S, h, q⟩ =>
  ⟨H0, F, δ, _, S, h, fun d v H1 r1 e1 f1 => by
    obtain ⟨b, rfl, r⟩ := r1
    cases f1
    exact ⟨b, rfl, q _ _ H1 r e1 (.bl _)⟩⟩
def dIf (c : DTt) (ta tb : DE) : DE := fun δ R => c δ fun b => if b = true then ta δ R else tb δ R
theorem cv_if : lift C z (dIf u1 ta tb) σ H Q → tIf (liftT C u1) (lift C z ta) (lift C z tb) σ H Q := fun ⟨H0, F, δ, R, S, h, q⟩ =>
  ⟨H0, F, δ, _, S, h, fun b H1 r1 e1 => by
    cases b with
    | true => exact ⟨H0, F, δ, _, S.ext e1, r1, fun d v H2 r2 e2 f2 => q d v H2 r2 (e1.trans e2) (f2.mono (reg_tail e1 e2))⟩
    | false => exact ⟨H0, F, δ, _, S.ext e1, r1, fun d v H2 r2 e2 f2 => q d v H2 r2 (e1.trans e2) (f2.mono (reg_tail e1 e2))⟩⟩
/-! ### what is walked -/
noncomputable def jn (pl : Option (Addr × Addr)) (B H H' : Hp) : Hp := fun a => match B a with
  | some o => some o
  | none => nw pl H H' a
def ItOk (K : PySem.W.Frag) (pl : Option (Addr × Addr)) (B : Hp) (J : It) (xs : List D) : Prop := ∀ i H', Sub B H' → (xs.length ≤ i → J.stop i H') ∧ ∀ d, xs[i]? = some d → J.go i H' ∧ ∀ x H'', J.yld i H' x H'' → Xt pl H' H'' ∧ Fz K pl (jn pl B H' H'') x d
def liftI (C : Cn) (z : Zn) (t : DA) : TI := fun σ H RR => ∃ H0 F δ R, SR C H0 F σ H δ ∧ t δ R ∧ ∀ xs J H', R xs → Xt C.pl H H' → ItOk C.K C.pl (reg z F C.pl H H') J xs → RR J H'
theorem jn_l {pl : Option (Addr × Addr)} {B : Hp} : Sub B (jn pl B H H') := fun a o h => by unfold jn; rw [h]
def iAny (K : PySem.W.Frag) (tl : TE) : TI := fun σ H R => tl σ H fun x H1 => (∃ a xs, x = .ref a ∧ SqL K H1 a xs ∧ R (Itl K a) H1) ∨ (∃ a xs, x = .ref a ∧ SqT K H1 a xs ∧ R (Itt K a) H1) ∨ ∃ x', x = .str x' ∧ R (Its x') H1
theorem pi_any {X : Cx} {tg l : Expr} {tl : TE} (hl : PE X l tl) : PI X tg l (iAny X.K tl) := by
  refine ⟨fun pins s σ H R I h => ?_⟩
  refine thn (hl.run pins s σ H _ I h) fun v s1 ⟨x, H1, I1, r1, q1⟩ => ?_
  rcases q1 with ⟨a, xs, rfl, hq, q⟩ | ⟨a, xs, rfl, hq, q⟩ | ⟨x', rfl, q⟩
  · cases r1
    obtain ⟨its, rv, p, hz⟩ := I1.list hq
    refine wpAny_pyIter_list p.isList ?_
    refine ⟨s1.heap.objs.size, [s1.heap.objs.size], _, _, H1, rfl, I1.kept (t' := s1.toks) fun b o e => Heap.get?_push_of_some _ e, turn_list a _, ⟨_, Heap.get?_push_size _ rfl, rfl, rfl⟩, fun b hb => ?_, q⟩
    rw [show b = s1.heap.objs.size by simpa using hb]
    exact I1.fpOk (Nat.le_refl _) (I1.hok.fresh (Nat.le_refl _))
  · cases r1
    obtain ⟨its, rv, p, hz⟩ := I1.tuple hq
    refine wpAny_pyIter_tuple (show s1.heap.IsTuple a its.toArray from p) ?_
    refine ⟨s1.heap.objs.size, [s1.heap.objs.size], _, _, H1, rfl, I1.kept (t' := s1.toks) fun b o e => Heap.get?_push_of_some _ e, turn_tuple a _, ⟨_, Heap.get?_push_size _ rfl, rfl, rfl⟩, fun b hb => ?_, q⟩
    rw [show b = s1.heap.objs.size by simpa using hb]
    exact I1.fpOk (Nat.le_refl _) (I1.hok.fresh (Nat.le_refl _))
  · obtain ⟨t, rfl⟩ := r1
    cases ha : x'.cps.all (· < 128)
    · exact wpAny_pyIter_wide ha (pi_one (tk := s1.toks) I1 _ (turn_str _ x' t "str_iterator" (.inr rfl)) ⟨_, Heap.get?_push_size _ rfl, rfl, rfl⟩ q)
    · exact wpAny_pyIter_ascii ha (pi_one (tk := s1.toks) I1 _ (turn_str _ x' t "str_ascii_iterator" (.inl rfl)) ⟨_, Heap.get?_push_size _ rfl, rfl, rfl⟩ q)
def fItems : D → (List D → Prop) → Prop
  | .tup ds, R => R ds
  | .lst ds, R => R ds
  | .str w, R => R (w.map fun c => .str [c])
  | _, _ => False
def dIt (ta : DE) : DA := fun δ R => ta δ fun d => fItems d R
variable {RR : It → Hp → Prop}
theorem FzL.none_of {K : PySem.W.Frag} {pl : Option (Addr × Addr)} {B : Hp} {vs : List V} {ds : List D} {i : Nat} (f : FzL K pl B vs ds) (h : ds.length ≤ i) : vs.length ≤ i := by rw [f.len]; exact h
theorem cv_it : liftI C z (dIt ta) σ H RR → iAny C.K (lift C z ta) σ H RR := fun ⟨H0, F, δ, R, S, h, q⟩ =>
  ⟨H0, F, δ, _, S, h, fun d v H1 r1 e1 f1 => by
    cases d with
    | tup ds =>
      cases f1 with
      | @tup a vs _ ha fl =>
        have hv := (tupAt_mono (reg_vis e1) ha).sq
        refine .inr (.inl ⟨a, vs, rfl, hv.elim (fun z => .inl (z.elim (fun y => .inl (of_vis y).2) fun ⟨o, y⟩ => .inr ⟨o, (of_vis y).2⟩)) .inr, q _ _ H1 r1 e1 fun i H' sb => ?_⟩)
        have hs : SqT C.K H' a vs := (tupAt_mono sb ha).sq
        refine ⟨fun le => ⟨vs, hs, fl.none_of le⟩, fun d hd => ?_⟩
        obtain ⟨u, hu, fu⟩ := fl.at_ hd
        refine ⟨⟨vs, u, hs, hu⟩, fun x H'' y => ?_⟩
        obtain ⟨rfl, y⟩ := y
        rw [Option.some.inj ((y vs hs).symm.trans hu)]
        exact ⟨Xt.refl _ _, fu.mono jn_l⟩
    | lst ds =>
      cases f1 with
      | @lst a vs _ ha fl =>
        refine .inl ⟨a, vs, rfl, .inl (.inl (reg_of_vis e1 ha).2), q _ _ H1 r1 e1 fun i H' sb => ?_⟩
        have hs : SqL C.K H' a vs := .inl (.inl (sb _ _ ha))
        refine ⟨fun le => ⟨vs, hs, fl.none_of le⟩, fun d hd => ?_⟩
        obtain ⟨u, hu, fu⟩ := fl.at_ hd
        refine ⟨⟨vs, u, hs, hu⟩, fun x H'' y => ?_⟩
        obtain ⟨rfl, y⟩ := y
        rw [Option.some.inj ((y vs hs).symm.trans hu)]
        exact ⟨Xt.refl _ _, fu.mono jn_l⟩
    | str w =>
      cases f1
      refine .inr (.inr ⟨_, rfl, q _ _ H1 r1 e1 fun i H' sb => ⟨fun le => (by simpa using le : w.toArray.size ≤ i), fun d hd => ?_⟩⟩)
      rw [List.getElem?_map] at hd
      cases hw : w[i]? with
      | none => rw [hw] at hd; cases hd
      | some c =>
        rw [hw] at hd
        cases hd
        obtain ⟨hi, _⟩ := List.getElem?_eq_some_iff.mp hw
        refine ⟨(by simpa using hi : i < w.toArray.size), fun x H'' y => ?_⟩
        obtain ⟨rfl, c', hc, rfl⟩ := y
        have e : c' = c := by
          have hc2 : w[i]? = some c' := by simpa using hc
          rw [hw] at hc2
          exact (Option.some.inj hc2).symm
        subst e
        exact ⟨Xt.refl _ _, .str [c']⟩
    | _ => exact r1.elim⟩
def rngD (lo hi : Int) : List D := (List.range (hi - lo).toNat).map fun i => .int (lo + (i : Nat))
def dRng1 (t : DA) : DA := fun δ R => t δ fun ds => match ds with
  | [.int n] => (-(2 ^ 62) ≤ n ∧ n < 2 ^ 62) ∧ R (rngD 0 n)
  | _ => False
def dRng2 (t : DA) : DA := fun δ R => t δ fun ds => match ds with
  | [.int m, .int n] => (-(2 ^ 62) ≤ m ∧ m < 2 ^ 62 ∧ -(2 ^ 62) ≤ n ∧ n < 2 ^ 62) ∧ R (rngD m n)
  | _ => False
theorem rng_ok {K : PySem.W.Frag} {pl : Option (Addr × Addr)} {B : Hp} (lo hi : Int) : ItOk K pl B (Itr lo (hi - lo).toNat) (rngD lo hi) := fun i H' sb => by
  unfold rngD
  refine ⟨fun le => (by simpa only [List.length_map, List.length_range] using le : (hi - lo).toNat ≤ i), fun d hd => ?_⟩
  rw [List.getElem?_map] at hd
  cases hw : (List.range (hi - lo).toNat)[i]? with
  | none => rw [hw] at hd; cases hd
  | some j =>
    rw [hw] at hd
    cases hd
    obtain ⟨h1, h2⟩ := List.getElem?_eq_some_iff.mp hw
    have h3 : i < (hi - lo).toNat := by simpa using h1
    have h4 : j = i := by simpa using h2.symm
    subst h4
    refine ⟨h3, fun x H'' y => ?_⟩
    obtain ⟨rfl, rfl⟩ := y
    exact ⟨Xt.refl _ _, .int _⟩
theorem cv_rng1 : liftI C z (dRng1 t) σ H RR → iRng1 (liftA C .e t) σ H RR := fun ⟨H0, F, δ, R, S, h, q⟩ =>
  ⟨H0, F, δ, _, S, h, fun ds vs H1 r1 e1 f1 => by
    match ds, f1, r1 with
    | [.int n], .cons (.int _) .nil, r1 =>
      refine ⟨n, rfl, r1.1.1, r1.1.2, ?_⟩
      have := q _ (Itr 0 (n - 0).toNat) H1 r1.2 e1 (rng_ok 0 n)
      rwa [Int.sub_zero] at this⟩
theorem cv_rng2 : liftI C z (dRng2 t) σ H RR → iRng2 (liftA C .e t) σ H RR := fun ⟨H0, F, δ, R, S, h, q⟩ =>
  ⟨H0, F, δ, _, S, h, fun ds vs H1 r1 e1 f1 => by
    match ds, f1, r1 with
    | [.int m, .int n], .cons (.int _) (.cons (.int _) .nil), r1 => exact ⟨m, n, rfl, r1.1, q _ _ H1 r1.2 e1 (rng_ok m n)⟩⟩
end
end PD
set_option Elab.async false
set_option linter.all false
set_option maxRecDepth 100000
set_option maxHeartbeats 2000000
namespace PD
open PySem PySem.Spec PyProof.Rows L2
section
variable {C : Cn} {H0 H H1 H2 H' : Hp} {F : Nat → List Addr} {σ σ' : L2.St} {δ : DEnv} {Q : VK} {ta tb tc : DE} {z : Zn} {t : DA} {QT : Bool → Hp → Prop}
/-! ### slots -/
theorem get_set_cases {α : Type} {l : List α} {i j : Nat} {x y : α} (h : (l.set i x)[j]? = some y) : (j = i ∧ y = x ∧ i < l.length) ∨ (j ≠ i ∧ l[j]? = some y) := by
  by_cases e : j = i
  · subst e
    by_cases hl : j < l.length
    · rw [List.getElem?_set_self hl] at h
      exact .inl ⟨rfl, (Option.some.inj h).symm, hl⟩
    · rw [List.getElem?_eq_none_iff.mpr (by rw [List.length_set]; omega)] at h
      cases h
  · rw [List.getElem?_set_ne (Ne.symm e)] at h
    exact .inr ⟨e, h⟩
theorem SR.set (S : SR C H0 F σ H δ) {i : Nat} {v : V} {d : D} (hM : C.M i = false) (f : Fz C.K C.pl (msk F C.pl H) v d) : SR C H0 F (σ.set i (some v)) H (δ.set i (some d)) where
  len := by rw [List.length_set, List.length_set]; exact S.len
  nod := S.nod
  dis := S.dis
  fre := fun j hj => S.fre j (by rwa [List.length_set] at hj)
  dom := S.dom
  bas := S.bas
  frz := fun j e m h => by
    rcases get_set_cases h with ⟨rfl, q, l⟩ | ⟨ne, h⟩
    · cases q
      exact ⟨v, by rw [List.getElem?_set_self (by rw [S.len]; exact l)], f⟩
    · obtain ⟨u, h1, h2⟩ := S.frz j e m h
      exact ⟨u, by rw [List.getElem?_set_ne (Ne.symm ne)]; exact h1, h2⟩
  own := fun j e m h => by
    rcases get_set_cases h with ⟨rfl, q, l⟩ | ⟨ne, h⟩
    · rw [hM] at m; cases m
    · obtain ⟨u, h1, h2⟩ := S.own j e m h
      exact ⟨u, by rw [List.getElem?_set_ne (Ne.symm ne)]; exact h1, h2⟩
  pol := S.pol
/-- forgetting slots -/
theorem SR.weak (S : SR C H0 F σ H δ) {δ' : DEnv} (hl : σ'.length = δ'.length) (hl2 : σ.length = σ'.length) (w : ∀ (i : Nat) (d : D), δ'[i]? = some (some d) → δ[i]? = some (some d) ∧ σ'[i]? = σ[i]?) : SR C H0 F σ' H δ' where
  len := hl
  nod := S.nod
  dis := S.dis
  fre := fun j hj => S.fre j (by rw [hl2]; exact hj)
  dom := S.dom
  bas := S.bas
  frz := fun i d m h => by
    obtain ⟨h1, h2⟩ := w i d h
    rw [h2]
    exact S.frz i d m h1
  own := fun i d m h => by
    obtain ⟨h1, h2⟩ := w i d h
    rw [h2]
    exact S.own i d m h1
  pol := S.pol
def wipeD (δ : DEnv) : List Nat → DEnv
  | [] => δ
  | v :: vs => (wipeD δ vs).set v none
theorem wipeD_length (δ : DEnv) : ∀ vs : List Nat, (wipeD δ vs).length = δ.length
  | [] => rfl
  | v :: vs => by unfold wipeD; rw [List.length_set, wipeD_length δ vs]
theorem wipeD_some {δ : DEnv} {i : Nat} {x : D} : ∀ {vs : List Nat}, (wipeD δ vs)[i]? = some (some x) → δ[i]? = some (some x) ∧ i ∉ vs
  | [], h => ⟨h, by simp⟩
  | v :: vs, h => by
    unfold wipeD at h
    rcases get_set_cases h with ⟨rfl, q, l⟩ | ⟨ne, h⟩
    · cases q
    · obtain ⟨h1, h2⟩ := wipeD_some h
      exact ⟨h1, fun m => (List.mem_cons.mp m).elim ne h2⟩
theorem SR.wipe (S : SR C H0 F σ H δ) (vs : List Nat) : SR C H0 F (L2.wipe σ vs) H (wipeD δ vs) :=
  S.weak (by rw [wipe_length, wipeD_length]; exact S.len) (wipe_length σ vs).symm fun i d h => by
    obtain ⟨h1, h2⟩ := wipeD_some h
    exact ⟨h1, wipe_out h2⟩
/-! ### targets -/
structure OnlyAt (V : Nat → Prop) (σ σ' : L2.St) : Prop where
  len : σ'.length = σ.length
  off : ∀ i, ¬ V i → σ'[i]? = σ[i]?
theorem OnlyAt.refl (V : Nat → Prop) (σ : L2.St) : OnlyAt V σ σ := ⟨rfl, fun _ _ => rfl⟩
theorem OnlyAt.trans {V : Nat → Prop} {σ σ1 σ2 : L2.St} (a : OnlyAt V σ σ1) (b : OnlyAt V σ1 σ2) : OnlyAt V σ σ2 := ⟨b.len.trans a.len, fun i n => (b.off i n).trans (a.off i n)⟩
def liftG (C : Cn) (V : Nat → Prop) (tg : DG) : TG := fun v σ H Q => ∃ H0 F δ d R, SR C H0 F σ H δ ∧ Fz C.K C.pl (msk F C.pl H) v d ∧ tg d δ R ∧ ∀ δ' σ', R δ' → SR C H0 F σ' H δ' → OnlyAt V σ σ' → Q σ' H
abbrev DGs := List D → DEnv → (DEnv → Prop) → Prop
def liftGs (C : Cn) (V : Nat → Prop) (tg : DGs) : TGs := fun vs σ H Q => ∃ H0 F δ ds R, SR C H0 F σ H δ ∧ FzL C.K C.pl (msk F C.pl H) vs ds ∧ tg ds δ R ∧ ∀ δ' σ', R δ' → SR C H0 F σ' H δ' → OnlyAt V σ σ' → Q σ' H
def dgName (i : Nat) : DG := fun d δ Q => Q (δ.set i (some d))
def dgNil : DGs := fun ds δ Q => match ds with
  | [] => Q δ
  | _ => False
def dgCons (t : DG) (u : DGs) : DGs := fun ds δ Q => match ds with
  | d :: r => t d δ fun δ' => u r δ' Q
  | [] => False
def dgTup (n : Nat) (t : DGs) : DG := fun d δ Q => match d with
  | .tup ds => ds.length = n ∧ t ds δ Q
  | _ => False
variable {V : Nat → Prop} {QG : L2.St → Hp → Prop} {v : L2.V} {vs : List L2.V} {tg : DG} {tgs : DGs}
theorem cv_gname {i : Nat} (hM : C.M i = false) (hV : V i) : liftG C V (dgName i) v σ H QG → gName i v σ H QG := fun ⟨H0, F, δ, d, R, S, f, h, q⟩ =>
  q _ _ h (S.set hM f) ⟨List.length_set .., fun j nj => List.getElem?_set_ne (fun e : i = j => nj (by rw [← e]; exact hV))⟩
theorem cv_gnil : liftGs C V dgNil vs σ H QG → gNil vs σ H QG := fun ⟨H0, F, δ, ds, R, S, f, h, q⟩ => by
  match ds, f, h with
  | [], .nil, h => exact ⟨rfl, q _ _ h S (OnlyAt.refl _ _)⟩
theorem cv_gcons : liftGs C V (dgCons tg tgs) vs σ H QG → gCons (liftG C V tg) (liftGs C V tgs) vs σ H QG := fun ⟨H0, F, δ, ds, R, S, f, h, q⟩ => by
  match ds, f, h with
  | d :: r, .cons f1 f2, h => exact ⟨_, _, rfl, H0, F, δ, d, _, S, f1, h, fun δ1 σ1 r1 S1 o1 => ⟨H0, F, δ1, r, _, S1, f2, r1, fun δ2 σ2 r2 S2 o2 => q _ _ r2 S2 (o1.trans o2)⟩⟩
theorem cv_gtup {n : Nat} : liftG C V (dgTup n tgs) v σ H QG → gTup C.K n (liftGs C V tgs) v σ H QG := fun ⟨H0, F, δ, d, R, S, f, h, q⟩ => by
  match d, f, h with
  | .tup ds, .tup (a := a) (vs := vs) ha fl, h =>
    exact ⟨a, vs, rfl, ha.sq.elim (fun z => .inl (z.elim (fun y => .inl (of_msk y).2.2) fun ⟨o, y⟩ => .inr ⟨o, (of_msk y).2.2⟩)) .inr, fl.len.trans h.1, H0, F, δ, ds, R, S, fl, h.2, q⟩
/-! ### comprehensions -/
def lcD (tg : DG) (tt : DTt) (te : DE) (δ : DEnv) : List D → List D → (D → Prop) → Prop
  | [], acc, R => R (.lst acc)
  | x :: xs, acc, R => tg x δ fun δ2 => tt δ2 fun b => if b = true then te δ2 fun y => lcD tg tt te δ xs (acc ++ [y]) R else lcD tg tt te δ xs acc R
def dLcZ (b : Bool) (ti : DA) (tg : DG) (tt : DTt) (te : DE) (vs : List Nat) : DE := fun δ R => ti δ fun xs => xs.length ≤ sizeLine ∧ (b = true → immL xs = true) ∧ lcD tg tt te (wipeD δ vs) xs [] R
/-- over a source that stays where it is; over an owned list of immutable items -/
abbrev dLc := dLcZ false
abbrev dLcE := dLcZ true
def zb : Zn → Bool
  | .e => true
  | _ => false
theorem immL_get : ∀ {ds : List D} {i : Nat} {d : D}, immL ds = true → ds[i]? = some d → imm d = true
  | [], i, d, _, h => by simp at h
  | e :: r, 0, d, z, h => by
    simp only [immL, Bool.and_eq_true] at z
    simp only [List.getElem?_cons_zero, Option.some.injEq] at h
    rw [← h]; exact z.1
  | e :: r, i + 1, d, z, h => by
    simp only [immL, Bool.and_eq_true] at z
    exact immL_get z.2 (by simpa using h)
/-- an extra owned object outside the slots: a comprehension's list, at a new address -/
def pseu (F : Nat → List Addr) (k : Nat) (D : Addr) : Nat → List Addr := fun i => if i = k then D :: F i else F i
theorem pseu_mem {k : Nat} {D a : Addr} {i : Nat} : a ∈ pseu F k D i ↔ (i = k ∧ a = D) ∨ a ∈ F i := by
  unfold pseu
  by_cases e : i = k
  · subst e
    rw [if_pos rfl, List.mem_cons]
    exact ⟨fun h => h.imp (fun e => ⟨rfl, e⟩) id, fun h => h.imp (fun e => e.2) id⟩
  · rw [if_neg e]
    exact ⟨.inr, fun h => h.elim (fun z => absurd z.1 e) id⟩
theorem SR.lay (S : SR C H0 F σ H δ) {D : Addr} (n : H D = none) {o : HO} (t : isTupO o = false) : SR C H0 (pseu F (σ.length + D) D) σ (upd H D o) δ := by
  have np := S.notpool n
  have off : ∀ i, D ∉ F i := fun i m => by
    obtain ⟨_, u, q, _⟩ := S.dom i D m
    rw [n] at q; cases q
  have hm : Sub (msk F C.pl H) (msk (pseu F (σ.length + D) D) C.pl (upd H D o)) := fun a u h => by
    obtain ⟨h1, h2, h3⟩ := of_msk h
    refine msk_of h1 (fun i m => ?_) (by rw [upd_ne (ne_of_none h3 n)]; exact h3)
    rcases pseu_mem.mp m with ⟨_, e⟩ | m
    · rw [e, n] at h3; cases h3
    · exact h2 i m
  refine ⟨S.len, fun i => ?_, fun i j a m1 m2 => ?_, fun i hi hM => ?_, fun i a m => ?_, S.bas.trans hm, fun i d m h => ?_, fun i d m h => ?_, S.pol.keep fun a u h => by rw [upd_ne (ne_of_none h n)]; exact h⟩
  · unfold pseu
    by_cases e : i = σ.length + D
    · rw [if_pos e]; exact List.nodup_cons.mpr ⟨off i, S.nod i⟩
    · rw [if_neg e]; exact S.nod i
  · rcases pseu_mem.mp m1 with ⟨e1, e2⟩ | m1
    · rcases pseu_mem.mp m2 with ⟨e3, _⟩ | m2
      · exact e1.trans e3.symm
      · exact absurd (e2 ▸ m2) (off j)
    · rcases pseu_mem.mp m2 with ⟨_, e4⟩ | m2
      · exact absurd (e4 ▸ m1) (off i)
      · exact S.dis i j a m1 m2
  · unfold pseu
    have h2 : i < σ.length := hi
    rw [if_neg (fun e : i = σ.length + D => by rw [e] at h2; exact absurd h2 (Nat.not_lt.mpr (Nat.le_add_right _ _)))]
    exact S.fre i hi hM
  · rcases pseu_mem.mp m with ⟨_, rfl⟩ | m
    · exact ⟨np, o, upd_same, t⟩
    · obtain ⟨h1, u, h2, h3⟩ := S.dom i a m
      exact ⟨h1, u, by rw [upd_ne (ne_of_none h2 n)]; exact h2, h3⟩
  · obtain ⟨w, h1, h2⟩ := S.frz i d m h
    exact ⟨w, h1, h2.mono hm⟩
  · obtain ⟨w, h1, h2⟩ := S.own i d m h
    have hi : i < σ.length := (List.getElem?_eq_some_iff.mp h1).1
    have e : pseu F (σ.length + D) D i = F i := by
      unfold pseu
      rw [if_neg (fun e : i = σ.length + D => by rw [e] at hi; exact absurd hi (Nat.not_lt.mpr (Nat.le_add_right _ _)))]
    rw [e]
    refine ⟨w, h1, h2.mono hm fun a q => upd_ne fun e => off i (e ▸ q)⟩
/-- that object changes -/
theorem SR.relay (S : SR C H0 F σ H δ) {D : Addr} {k : Nat} (hk : σ.length ≤ k) (m : D ∈ F k) {o : HO} (t : isTupO o = false) : SR C H0 F σ (upd H D o) δ := by
  have np := (S.dom k D m).1
  have hm : Sub (msk F C.pl H) (msk F C.pl (upd H D o)) := fun a u h => by
    obtain ⟨h1, h2, h3⟩ := of_msk h
    exact msk_of h1 h2 (by rw [upd_ne (fun e : a = D => h2 k (by rw [e]; exact m))]; exact h3)
  refine ⟨S.len, S.nod, S.dis, S.fre, fun i a q => ?_, S.bas.trans hm, fun i d q h => ?_, fun i d q h => ?_, fun a aL e => ?_⟩
  · obtain ⟨h1, u, h2, h3⟩ := S.dom i a q
    by_cases e : a = D
    · subst e; exact ⟨h1, o, upd_same, t⟩
    · exact ⟨h1, u, by rw [upd_ne e]; exact h2, h3⟩
  · obtain ⟨w, h1, h2⟩ := S.frz i d q h
    exact ⟨w, h1, h2.mono hm⟩
  · obtain ⟨w, h1, h2⟩ := S.own i d q h
    refine ⟨w, h1, h2.mono hm fun a r => upd_ne fun e => ?_⟩
    have hi : i < σ.length := (List.getElem?_eq_some_iff.mp h1).1
    exact absurd (S.dis i k D (e ▸ r) m) (Nat.ne_of_lt (Nat.lt_of_lt_of_le hi hk))
  · obtain ⟨ns, i, v, c, s, ne, h1, h2, h3⟩ := S.pol a aL e
    exact ⟨ns, i, v, c, s, ne, by rw [upd_ne (fun z : a = D => np ⟨_, e, .inl z.symm⟩)]; exact h1, by rw [upd_ne (fun z : aL = D => np ⟨_, e, .inr z.symm⟩)]; exact h2, h3⟩
/-- what is new since H1, the list at Lp left out -/
noncomputable def nwx (pl : Option (Addr × Addr)) (Lp : Addr) (H1 H' : Hp) : Hp := fun a => if a = Lp then none else nw pl H1 H' a
theorem nwx_nw {pl : Option (Addr × Addr)} {Lp : Addr} : Sub (nwx pl Lp H1 H') (nw pl H1 H') := fun a o h => by
  unfold nwx at h
  by_cases e : a = Lp
  · rw [if_pos e] at h; cases h
  · rwa [if_neg e] at h
theorem nwx_of {pl : Option (Addr × Addr)} {Lp a : Addr} {o : HO} (n : a ≠ Lp) (h : nw pl H1 H' a = some o) : nwx pl Lp H1 H' a = some o := by
  unfold nwx
  rw [if_neg n]
  exact h
theorem of_nwx {pl : Option (Addr × Addr)} {Lp a : Addr} {o : HO} (h : nwx pl Lp H1 H' a = some o) : a ≠ Lp ∧ nw pl H1 H' a = some o := by
  unfold nwx at h
  by_cases e : a = Lp
  · rw [if_pos e] at h; cases h
  · rw [if_neg e] at h; exact ⟨e, h⟩
/-- between two heaps all but Lp is kept -/
def XD (pl : Option (Addr × Addr)) (Lp : Addr) (H H' : Hp) : Prop := ∀ a o, a ≠ Lp → ¬ Hid pl a → H a = some o → H' a = some o
theorem nwx_mono {pl : Option (Addr × Addr)} {Lp : Addr} (e : XD pl Lp H H') : Sub (nwx pl Lp H1 H) (nwx pl Lp H1 H') := fun a o h => by
  obtain ⟨n, h⟩ := of_nwx h
  refine nwx_of n ?_
  obtain ⟨np, h⟩ := of_nw h
  rcases h with ⟨h1, h2, z⟩ | ⟨xs, h1, rfl⟩
  · exact nw_new np h1 (e a o n np h2) z
  · exact nw_tup np h1
theorem wipe_eq {σ σ' : L2.St} {vs : List Nat} (o : OnlyAt (· ∈ vs) (L2.wipe σ vs) σ') : L2.wipe σ' vs = L2.wipe σ vs := by
  apply List.ext_getElem?
  intro i
  by_cases m : i ∈ vs
  · by_cases hl : i < σ.length
    · have key : ∀ (τ : L2.St) (ws : List Nat), i ∈ ws → i < τ.length → (L2.wipe τ ws)[i]? = some none := by
        intro τ ws
        induction ws with
        | nil => intro h; cases h
        | cons w r ih =>
          intro hm hl
          unfold L2.wipe
          by_cases e : w = i
          · subst e; rw [List.getElem?_set_self (by rw [wipe_length]; exact hl)]
          · rw [List.getElem?_set_ne e]
            exact ih ((List.mem_cons.mp hm).resolve_left (fun z => e z.symm)) hl
      rw [key σ vs m hl, key σ' vs m (by rw [o.len, wipe_length]; exact hl)]
    · have hl2 : σ'.length = σ.length := o.len.trans (wipe_length σ vs)
      rw [List.getElem?_eq_none_iff.mpr (by rw [wipe_length]; omega), List.getElem?_eq_none_iff.mpr (by rw [wipe_length]; omega)]
  · rw [wipe_out m, o.off i m]
/-- the state of a comprehension's list -/
structure LcI (C : Cn) (F : Nat → List Addr) (σw : L2.St) (δw : DEnv) (Lp : Addr) (H1 H' : Hp) (acc : List D) : Prop where
  sr : ∃ H0, SR C H0 F σw H' δw
  mem : Lp ∈ F (σw.length + Lp)
  sub : ∀ a o, ¬ Hid C.pl a → H1 a = some o → H' a = some o
  lst : ∃ vs, H' Lp = some (.lst vs) ∧ FzL C.K C.pl (nwx C.pl Lp H1 H') vs acc
theorem LcI.ext {σw : L2.St} {δw : DEnv} {Lp : Addr} {acc : List D} (I : LcI C F σw δw Lp H1 H acc) (e : Xt C.pl H H') : LcI C F σw δw Lp H1 H' acc := by
  obtain ⟨H0, S⟩ := I.sr
  obtain ⟨vs, h1, h2⟩ := I.lst
  have np := (S.dom _ Lp I.mem).1
  exact ⟨⟨H0, S.ext e⟩, I.mem, fun a o n h => e.sub a o n (I.sub a o n h), vs, e.sub Lp _ np h1, h2.mono (nwx_mono fun a o _ n h => e.sub a o n h)⟩
/-- an item more -/
theorem LcI.add {σw : L2.St} {δw : DEnv} {Lp : Addr} {acc : List D} {y : D} {v : L2.V} {H3 H4 : Hp} (I : LcI C F σw δw Lp H1 H4 acc) (nD : H1 Lp = none) (J : LcI C F σw δw Lp H1 H3 acc) (e : Xt C.pl H3 H4) (f : Fz C.K C.pl (nw C.pl H3 H4) v y) :
    ∃ vs, H4 Lp = some (.lst vs) ∧ vs.length = acc.length ∧ LcI C F σw δw Lp H1 (upd H4 Lp (.lst (vs ++ [v]))) (acc ++ [y]) := by
  obtain ⟨H0, S⟩ := I.sr
  obtain ⟨vs, h1, h2⟩ := I.lst
  obtain ⟨vs3, h3, _⟩ := J.lst
  have mono : Sub (nwx C.pl Lp H1 H4) (nwx C.pl Lp H1 (upd H4 Lp (.lst (vs ++ [v])))) := nwx_mono fun a o n _ h => by rw [upd_ne n]; exact h
  refine ⟨vs, h1, h2.len, ⟨H0, S.relay (Nat.le_add_right _ _) I.mem rfl⟩, I.mem, fun a o n h => by rw [upd_ne (fun z : a = Lp => by rw [z, nD] at h; cases h)]; exact I.sub a o n h, _, upd_same, FzL.append (h2.mono mono) (.cons (f.mono fun a o h => ?_) .nil)⟩
  obtain ⟨np, h⟩ := of_nw h
  have n : a ≠ Lp := by
    rintro rfl
    rcases h with ⟨q, _, _⟩ | ⟨xs, q, _⟩
    · rw [h3] at q; cases q
    · rw [h3] at q; cases q
  refine nwx_of n ?_
  rcases h with ⟨q, q', z⟩ | ⟨xs, q, rfl⟩
  · have : H1 a = none := by
      cases r : H1 a with
      | none => rfl
      | some u => rw [J.sub a u np r] at q; cases q
    exact nw_new np this (by rw [upd_ne n]; exact q') z
  · cases r : H1 a with
    | none =>
      exact nw_new np r (by rw [upd_ne n]; exact e.sub a _ np q) rfl
    | some u =>
      have z := J.sub a u np r
      rw [q] at z; cases z
      exact nw_tup np r
theorem LcI.start (S : SR C H0 F σ H1 δ) {Lp : Addr} (nD : H1 Lp = none) (vs : List Nat) : LcI C (pseu F (σ.length + Lp) Lp) (L2.wipe σ vs) (wipeD δ vs) Lp H1 (upd H1 Lp (.lst [])) [] :=
  ⟨⟨H0, (S.lay nD rfl).wipe vs⟩, by rw [wipe_length]; exact pseu_mem.mpr (.inl ⟨rfl, rfl⟩), fun a o n h => by rw [upd_ne (ne_of_none h nD)]; exact h, [], upd_same, .nil⟩
theorem LcI.fin {σw : L2.St} {δw : DEnv} {Lp : Addr} {acc : List D} (I : LcI C F σw δw Lp H1 H' acc) (nD : H1 Lp = none) : Xt C.pl H1 H' ∧ Fz C.K C.pl (nw C.pl H1 H') (.ref Lp) (.lst acc) := by
  obtain ⟨H0, S⟩ := I.sr
  obtain ⟨vs, h1, h2⟩ := I.lst
  have np := (S.dom _ Lp I.mem).1
  exact ⟨⟨I.sub, fun _ => S.pol⟩, .lst (nw_new np nD h1 rfl) (h2.mono nwx_nw)⟩
theorem jn_msk (S : SR C H0 F σ H δ) (e : Xt C.pl H H') {B : Hp} (hB : Sub B (msk F C.pl H')) : Sub (jn C.pl B H H') (msk F C.pl H') := fun a o h => by
  unfold jn at h
  cases q : B a with
  | some u => rw [q] at h; cases h; exact hB a _ q
  | none => rw [q] at h; exact nw_msk S e a o h
theorem drop_cons {α : Type} {xs : List α} {i : Nat} {x : α} (h : xs[i]? = some x) : xs.drop i = x :: xs.drop (i + 1) := by
  obtain ⟨hl, e⟩ := List.getElem?_eq_some_iff.mp h
  rw [← e]
  exact List.drop_eq_getElem_cons hl
theorem cv_lc {ti : DA} {tt : DTt} {te : DE} {vs : List Nat} (z : Zn) : lift C .n (dLcZ (zb z) ti tg tt te vs) σ H Q → tLc (liftI C z ti) (liftG C (· ∈ vs) tg) (liftT C tt) (lift C .n te) vs σ H Q := fun ⟨H0, F, δ, R, S, h, q⟩ =>
  ⟨H0, F, δ, _, S, h, fun xs J H1 r1 e1 ok Lp nD => by
    have S1 := S.ext e1
    have offF : ∀ i, Lp ∉ F i := fun i m => by
      obtain ⟨_, u, z, _⟩ := S1.dom i Lp m
      rw [nD] at z; cases z
    refine ⟨fun i m H' => m = xs.length - i ∧ i ≤ xs.length ∧ ∃ acc, acc.length ≤ i ∧ LcI C (pseu F (σ.length + Lp) Lp) (L2.wipe σ vs) (wipeD δ vs) Lp H1 H' acc ∧ lcD tg tt te (wipeD δ vs) (xs.drop i) acc R, ⟨_, rfl, Nat.zero_le _, [], Nat.le_refl _, LcI.start S1 nD vs, r1.2.2⟩, ?_⟩
    rintro i m H' ⟨rfl, hi, acc, ha, I, hl⟩
    have okB : Sub (reg z F C.pl H H1) H' := fun a o h => by
      obtain ⟨n, h⟩ := of_vis (reg_vis e1 a o h)
      exact I.sub a o n h
    obtain ⟨o1, o2⟩ := ok i H' okB
    by_cases hlt : i < xs.length
    · have hx : xs[i]? = some xs[i] := List.getElem?_eq_getElem hlt
      obtain ⟨g, y⟩ := o2 _ hx
      rw [drop_cons hx] at hl
      refine .inr ⟨g, fun H'' => ∃ acc', acc'.length ≤ i + 1 ∧ LcI C (pseu F (σ.length + Lp) Lp) (L2.wipe σ vs) (wipeD δ vs) Lp H1 H'' acc' ∧ lcD tg tt te (wipeD δ vs) (xs.drop (i + 1)) acc' R, fun H'' ⟨acc', h1, h2, h3⟩ => ⟨xs.length - (i + 1), by omega, rfl, hlt, acc', h1, h2, h3⟩, fun x H2 yl => ?_⟩
      obtain ⟨e2, fx⟩ := y x H2 yl
      have I2 := I.ext e2
      obtain ⟨H0', Sw⟩ := I.sr
      have hB : Sub (msk F C.pl H1) (msk (pseu F (σ.length + Lp) Lp) C.pl H2) := fun a o h => by
        obtain ⟨n, off, h⟩ := of_msk h
        refine msk_of n (fun j z => ?_) (e2.sub a o n (I.sub a o n h))
        rcases pseu_mem.mp z with ⟨_, rfl⟩ | z
        · rw [nD] at h; cases h
        · exact off j z
      have jv : ∀ {B : Hp}, Sub B (vis C.pl H1) → Sub (jn C.pl B H' H2) (vis C.pl H2) := fun {B} hb a o h => by
        unfold jn at h
        cases q : B a with
        | none => rw [q] at h; exact nw_vis e2 a o h
        | some u =>
          rw [q] at h; cases h
          obtain ⟨n, q⟩ := of_vis (hb a _ q)
          exact vis_of n (e2.sub a _ n (I.sub a _ n q))
      have fx' : Fz C.K C.pl (msk (pseu F (σ.length + Lp) Lp) C.pl H2) x xs[i] := by
        cases z with
        | e =>
          have Sx := Sw.ext e2
          refine (fx.mono (jv (reg_vis e1))).imm (fun a ys q => ?_) (immL_get (r1.2.1 rfl) hx)
          obtain ⟨n, q⟩ := of_vis q
          refine msk_of n (fun j m => ?_) q
          obtain ⟨_, o, q2, t⟩ := Sx.dom j a m
          rw [q] at q2; cases q2; cases t
        | f => exact fx.mono (jn_msk Sw e2 hB)
        | n => exact fx.mono (jn_msk Sw e2 (Sub.trans (nw_msk S e1) hB))
      refine ⟨H0', _, _, _, _, Sw.ext e2, fx', hl, fun δ2 σ2 r2 S2 only => ⟨wipe_eq only, H0', _, δ2, _, S2, r2, fun b H3 r3 e3 => ?_⟩⟩
      have I3 := I2.ext e3
      cases b with
      | true =>
        refine ⟨H0', _, δ2, _, S2.ext e3, r3, fun y v H4 r4 e4 f4 => ?_⟩
        obtain ⟨ws, h1, h2, h3⟩ := (I3.ext e4).add nD I3 e4 f4
        have := r1.1
        exact ⟨ws, h1, by omega, acc ++ [y], by simpa using ha, h3, r4⟩
      | false => exact ⟨acc, by omega, I3, r3⟩
    · have e : i = xs.length := by omega
      subst e
      obtain ⟨x1, x2⟩ := I.fin nD
      rw [List.drop_length] at hl
      exact .inl ⟨o1 (Nat.le_refl _), q _ _ H' hl (e1.trans x1) (x2.mono (nw_tail e1 x1))⟩⟩
end
end PD
set_option Elab.async false
set_option linter.all false
set_option maxRecDepth 100000
set_option maxHeartbeats 2000000
namespace PD
open PySem PySem.Spec PyProof.Rows L2
section
variable {C : Cn} {H0 H H1 H2 H' : Hp} {F : Nat → List Addr} {σ σ' : L2.St} {δ : DEnv} {Q : VK} {ta tb tc : DE} {z : Zn} {t : DA} {E : Ends} {s1 s2 : DS}
theorem cv_tOf {core : DE} {t' : TE} {QT : Bool → Hp → Prop} (h : ∀ σ H Q, lift C .n core σ H Q → t' σ H Q) : liftT C (dTest core) σ H QT → tTest t' σ H QT := fun ⟨H0, F, δ, R, S, hh, q⟩ =>
  h _ _ _ ⟨H0, F, δ, _, S, hh, fun d v H1 r1 e1 f1 => by
    obtain ⟨b, rfl, r⟩ := r1
    cases f1
    exact ⟨b, rfl, q b H1 r e1⟩⟩
/-! ### statements -/
def liftS (C : Cn) (t : DS) : TS := fun E σ H => ∃ H0 F δ DD, SR C H0 F σ H δ ∧ t DD δ ∧ (∀ F' δ' σ' H', DD.nx δ' → SR C H0 F' σ' H' δ' → E.nx σ' H') ∧ (∀ F' δ' σ' H', DD.bk δ' → SR C H0 F' σ' H' δ' → E.bk σ' H') ∧
  (∀ F' δ' σ' H', DD.ct δ' → SR C H0 F' σ' H' δ' → E.ct σ' H') ∧ ∀ d v H', DD.rt d → (∀ a o, ¬ Hid C.pl a → H0 a = some o → H' a = some o) → PoolOk C.pl H' → Fz C.K C.pl (nw C.pl H0 H') v d → E.rt v H'
theorem SR.xt (S : SR C H0 F σ H δ) : Xt C.pl H0 H := ⟨fun a o n h => (of_msk (S.bas a o (vis_of n h))).2.2, fun _ => S.pol⟩
def dSeq (a b : DS) : DS := fun DD δ => a { DD with nx := b DD } δ
def dSkip : DS := fun DD δ => DD.nx δ
theorem cvs_seq : liftS C (dSeq s1 s2) E σ H → tSeq (liftS C s1) (liftS C s2) E σ H := fun ⟨H0, F, δ, DD, S, h, q1, q2, q3, q4⟩ =>
  ⟨H0, F, δ, { DD with nx := s2 DD }, S, h, fun F' δ' σ' H' r S' => ⟨H0, F', δ', DD, S', r, q1, q2, q3, q4⟩, q2, q3, q4⟩
theorem cvs_skip : liftS C dSkip E σ H → tNext E σ H := fun ⟨H0, F, δ, DD, S, h, q1, q2, q3, q4⟩ => q1 _ _ _ _ h S
theorem pss_nilD {X : Cx} : PSs X [] (liftS C dSkip) := pss_of pss_nil fun _ _ _ h => cvs_skip h
theorem pss_consD {X : Cx} {st : Stmt} {r : List Stmt} (h1 : PS X st (liftS C s1)) (h2 : PSs X r (liftS C s2)) : PSs X (st :: r) (liftS C (dSeq s1 s2)) := pss_of (pss_cons h1 h2) fun _ _ _ h => cvs_seq h
theorem pss_oneD {X : Cx} {st : Stmt} (h1 : PS X st (liftS C s1)) : PSs X [st] (liftS C s1) := pss_one h1
def dBrk : DS := fun DD δ => DD.bk δ
def dCont : DS := fun DD δ => DD.ct δ
theorem cvs_brk : liftS C dBrk E σ H → tBreak E σ H := fun ⟨H0, F, δ, DD, S, h, q1, q2, q3, q4⟩ => q2 _ _ _ _ h S
theorem cvs_cont : liftS C dCont E σ H → tCont E σ H := fun ⟨H0, F, δ, DD, S, h, q1, q2, q3, q4⟩ => q3 _ _ _ _ h S
def dNever : DS := fun _ _ => False
theorem cvs_never : liftS C dNever E σ H → tNever E σ H := fun ⟨H0, F, δ, DD, S, h, q1, q2, q3, q4⟩ => h.elim
def dRet (ta : DE) : DS := fun DD δ => ta δ DD.rt
theorem cvs_ret : liftS C (dRet ta) E σ H → tRet (lift C .n ta) E σ H := fun ⟨H0, F, δ, DD, S, h, q1, q2, q3, q4⟩ =>
  ⟨H0, F, δ, DD.rt, S, h, fun d v H1 r e f => q4 d v H1 r (S.xt.trans e).sub (S.ext e).pol (f.mono (nw_tail S.xt e))⟩
def dRetN : DS := fun DD _ => DD.rt .non
theorem cvs_retN : liftS C dRetN E σ H → tRetN E σ H := fun ⟨H0, F, δ, DD, S, h, q1, q2, q3, q4⟩ => q4 _ _ H h S.xt.sub S.pol .non
def dDrop (ta : DE) : DS := fun DD δ => ta δ fun _ => DD.nx δ
theorem cvs_drop : liftS C (dDrop ta) E σ H → tDrop (lift C .e ta) E σ H := fun ⟨H0, F, δ, DD, S, h, q1, q2, q3, q4⟩ => ⟨H0, F, δ, _, S, h, fun d v H1 r e f => q1 _ _ _ _ r (S.ext e)⟩
def dIfS (c : DTt) (a b : DS) : DS := fun DD δ => c δ fun k => if k = true then a DD δ else b DD δ
theorem cvs_if {c : DTt} : liftS C (dIfS c s1 s2) E σ H → tIfS (liftT C c) (liftS C s1) (liftS C s2) E σ H := fun ⟨H0, F, δ, DD, S, h, q1, q2, q3, q4⟩ =>
  ⟨H0, F, δ, _, S, h, fun b H1 r e => by
    cases b with
    | true => exact ⟨H0, F, δ, DD, S.ext e, r, q1, q2, q3, q4⟩
    | false => exact ⟨H0, F, δ, DD, S.ext e, r, q1, q2, q3, q4⟩⟩
/-- x = e -/
def dSet (i : Nat) (ta : DE) : DS := fun DD δ => ta δ fun d => DD.nx (δ.set i (some d))
theorem cvs_set {i : Nat} (hM : C.M i = false) : liftS C (dSet i ta) E σ H → tAsg (lift C .f ta) (gName i) E σ H := fun ⟨H0, F, δ, DD, S, h, q1, q2, q3, q4⟩ =>
  ⟨H0, F, δ, _, S, h, fun d v H1 r e f => q1 _ _ _ _ r ((S.ext e).set hM f)⟩
/-- a, b = e -/
def dAsg (tg : DG) (ta : DE) : DS := fun DD δ => ta δ fun d => tg d δ DD.nx
theorem cvs_asg {tg : DG} {V : Nat → Prop} : liftS C (dAsg tg ta) E σ H → tAsg (lift C .f ta) (liftG C V tg) E σ H := fun ⟨H0, F, δ, DD, S, h, q1, q2, q3, q4⟩ =>
  ⟨H0, F, δ, _, S, h, fun d v H1 r e f => ⟨H0, F, δ, d, _, S.ext e, f, r, fun δ' σ' r' S' _ => q1 _ _ _ _ r' S'⟩⟩
/-! ### owned slots: new roots -/
mutual
def immK : List (Key × D) → Bool
  | [] => true
  | (_, d) :: r => imm d && immK r
def immT : List (List Key × D) → Bool
  | [] => true
  | (_, d) :: r => imm d && immT r
end
def flatD : D → Bool
  | .lst ds => immL ds
  | .dK ds => immK ds
  | .dT ds => immT ds
  | d => imm d
theorem ownL_imm {K : PySem.W.Frag} {pl : Option (Addr × Addr)} {B Hx : Hp} : ∀ {vs : List L2.V} {ds : List D}, FzL K pl B vs ds → immL ds = true → OwnL K pl B Hx [] vs ds
  | _, _, .nil, _ => .nil
  | _, _, .cons f r, z => by
    simp only [immL, Bool.and_eq_true] at z
    exact OwnL.cons (F := []) (G := []) (.im z.1 f) (ownL_imm r z.2)
theorem ownK_imm {K : PySem.W.Frag} {pl : Option (Addr × Addr)} {B Hx : Hp} : ∀ {vs : List (Key × L2.V)} {ds : List (Key × D)}, FzK K pl B vs ds → immK ds = true → OwnK K pl B Hx [] vs ds
  | _, _, .nil, _ => .nil
  | _, _, .cons f r, z => by
    simp only [immK, Bool.and_eq_true] at z
    exact OwnK.cons (F := []) (G := []) (.im z.1 f) (ownK_imm r z.2)
theorem ownT_imm {K : PySem.W.Frag} {pl : Option (Addr × Addr)} {B Hx : Hp} : ∀ {vs : List (List Key × L2.V)} {ds : List (List Key × D)}, FzT K pl B vs ds → immT ds = true → OwnT K pl B Hx [] vs ds
  | _, _, .nil, _ => .nil
  | _, _, .cons f r, z => by
    simp only [immT, Bool.and_eq_true] at z
    exact OwnT.cons (F := []) (G := []) (.im z.1 f) (ownT_imm r z.2)
theorem FzK.imm {K : PySem.W.Frag} {pl : Option (Addr × Addr)} {B B' : Hp} (e : TSub B B') : ∀ {v : List (Key × L2.V)} {d : List (Key × D)}, FzK K pl B v d → immK d = true → FzK K pl B' v d
  | _, _, .nil, _ => .nil
  | _, _, .cons h r, z => by
    simp only [immK, Bool.and_eq_true] at z
    exact .cons (Fz.imm e h z.1) (FzK.imm e r z.2)
theorem FzT.imm {K : PySem.W.Frag} {pl : Option (Addr × Addr)} {B B' : Hp} (e : TSub B B') : ∀ {v : List (List Key × L2.V)} {d : List (List Key × D)}, FzT K pl B v d → immT d = true → FzT K pl B' v d
  | _, _, .nil, _ => .nil
  | _, _, .cons h r, z => by
    simp only [immT, Bool.and_eq_true] at z
    exact .cons (Fz.imm e h z.1) (FzT.imm e r z.2)
/-- slot i's own objects become G -/
def own1 (F : Nat → List Addr) (i : Nat) (G : List Addr) : Nat → List Addr := fun j => if j = i then G else F j
theorem own1_mem {i j : Nat} {G : List Addr} {a : Addr} : a ∈ own1 F i G j ↔ (j = i ∧ a ∈ G) ∨ (j ≠ i ∧ a ∈ F j) := by
  unfold own1
  by_cases e : j = i
  · rw [if_pos e]; exact ⟨fun h => .inl ⟨e, h⟩, fun h => h.elim (fun z => z.2) fun z => absurd e z.1⟩
  · rw [if_neg e]; exact ⟨fun h => .inr ⟨e, h⟩, fun h => h.elim (fun z => absurd z.1 e) fun z => z.2⟩
theorem SR.setOwn (S : SR C H0 F σ H δ) (e : Xt C.pl H H1) {i : Nat} {v : L2.V} {d : D} (hi : i < σ.length) (hM : C.M i = true) {G : List Addr} (gn : G.Nodup) (gf : ∀ a ∈ G, H a = none ∧ ¬ Hid C.pl a ∧ ∃ o, H1 a = some o ∧ isTupO o = false)
    (ow : Own C.K C.pl (msk (own1 F i G) C.pl H1) H1 G v d) : SR C H0 (own1 F i G) (σ.set i (some v)) H1 (δ.set i (some d)) := by
  have hm : Sub (msk F C.pl H) (msk (own1 F i G) C.pl H1) := fun a o h => by
    obtain ⟨n, f, h⟩ := of_msk h
    refine msk_of n (fun j m => ?_) (e.sub a o n h)
    rcases own1_mem.mp m with ⟨_, m⟩ | ⟨_, m⟩
    · rw [(gf a m).1] at h; cases h
    · exact f j m
  refine ⟨by rw [List.length_set, List.length_set]; exact S.len, fun j => ?_, fun j k a m1 m2 => ?_, fun j hj hj2 => ?_, fun j a m => ?_, S.bas.trans hm, fun j d' m h => ?_, fun j d' m h => ?_, e.pool S.pol⟩
  · unfold own1; split
    · exact gn
    · exact S.nod j
  · have old : ∀ j, a ∈ F j → a ∉ G := fun j m1 m2 => by
      obtain ⟨_, o, q, _⟩ := S.dom j a m1
      rw [(gf a m2).1] at q; cases q
    rcases own1_mem.mp m1 with ⟨e1, g1⟩ | ⟨n1, g1⟩
    · rcases own1_mem.mp m2 with ⟨e2, g2⟩ | ⟨n2, g2⟩
      · exact e1.trans e2.symm
      · exact absurd g1 (old _ g2)
    · rcases own1_mem.mp m2 with ⟨e2, g2⟩ | ⟨n2, g2⟩
      · exact absurd g2 (old _ g1)
      · exact S.dis j k a g1 g2
  · have ne : j ≠ i := fun e => by rw [e, hM] at hj2; cases hj2
    unfold own1
    rw [if_neg ne]
    exact S.fre j (by rwa [List.length_set] at hj) hj2
  · rcases own1_mem.mp m with ⟨_, m⟩ | ⟨_, m⟩
    · exact (gf a m).2
    · obtain ⟨h1, o, h2, h3⟩ := S.dom j a m
      exact ⟨h1, o, e.sub a o h1 h2, h3⟩
  · rcases get_set_cases h with ⟨rfl, q, l⟩ | ⟨ne, h⟩
    · rw [hM] at m; cases m
    · obtain ⟨u, h1, h2⟩ := S.frz j d' m h
      exact ⟨u, by rw [List.getElem?_set_ne (Ne.symm ne)]; exact h1, h2.mono hm⟩
  · rcases get_set_cases h with ⟨rfl, q, l⟩ | ⟨ne, h⟩
    · cases q
      refine ⟨v, by rw [List.getElem?_set_self (by rw [S.len]; exact l)], ?_⟩
      unfold own1
      rw [if_pos rfl]
      exact ow
    · obtain ⟨u, h1, h2⟩ := S.own j d' m h
      refine ⟨u, by rw [List.getElem?_set_ne (Ne.symm ne)]; exact h1, ?_⟩
      have e1 : own1 F i G j = F j := by unfold own1; rw [if_neg ne]
      rw [e1]
      refine h2.mono hm fun a q => ?_
      obtain ⟨n, o, h3, _⟩ := S.dom j a q
      rw [h3, e.sub a o n h3]
theorem nw_fresh {pl : Option (Addr × Addr)} {a : Addr} {o : HO} (h : nw pl H H1 a = some o) (t : isTupO o = false) : H a = none ∧ ¬ Hid pl a ∧ ∃ o, H1 a = some o ∧ isTupO o = false := by
  obtain ⟨n, h⟩ := of_nw h
  rcases h with ⟨h1, h2, _⟩ | ⟨xs, _, rfl⟩
  · exact ⟨h1, n, o, h2, t⟩
  · cases t
theorem nw_now {pl : Option (Addr × Addr)} {a : Addr} {o : HO} (e : Xt pl H H1) (h : nw pl H H1 a = some o) : H1 a = some o := (of_vis (nw_vis e a o h)).2
theorem rd_nw {pl : Option (Addr × Addr)} {a : Addr} {o : HO} (h : Rd (nw pl H H1) a o) : nw pl H H1 a = some o := by
  rcases h with h | ⟨ob, h⟩
  · exact h
  · obtain ⟨n, h⟩ := of_nw h
    rcases h with ⟨_, _, z⟩ | ⟨xs, _, e⟩
    · cases z
    · cases e
/-- a new flat value to slot i, owned or not -/
theorem SR.setN (S : SR C H0 F σ H δ) (e : Xt C.pl H H1) {i : Nat} {v : L2.V} {d : D} (hi : i < σ.length) (f : Fz C.K C.pl (nw C.pl H H1) v d) (hf : C.M i = true → flatD d = true) : ∃ F', SR C H0 F' (σ.set i (some v)) H1 (δ.set i (some d)) := by
  cases hM : C.M i with
  | false => exact ⟨F, (S.ext e).set hM (f.mono (nw_msk S e))⟩
  | true =>
    have hf := hf hM
    have ts : ∀ {G : List Addr}, (∀ a ∈ G, H a = none ∧ ¬ Hid C.pl a ∧ ∃ o, H1 a = some o ∧ isTupO o = false) → TSub (nw C.pl H H1) (msk (own1 F i G) C.pl H1) := fun {G} gf a xs h => by
      have n := (of_nw h).1
      have h1 := nw_now e h
      refine msk_of n (fun j m => ?_) h1
      rcases own1_mem.mp m with ⟨_, m⟩ | ⟨_, m⟩
      · obtain ⟨_, _, o, q, t⟩ := gf a m
        rw [h1] at q; cases q; cases t
      · obtain ⟨n', o, q, t⟩ := S.dom j a m
        have q2 := e.sub a o n' q
        rw [h1] at q2; cases q2; cases t
    have im : imm d = true → ∃ F', SR C H0 F' (σ.set i (some v)) H1 (δ.set i (some d)) := fun h =>
      ⟨_, S.setOwn (G := []) e hi hM List.nodup_nil (fun a m => by cases m) (.im h (f.imm (ts (G := []) fun a m => by cases m) h))⟩
    cases d with
    | lst ds =>
      cases f with
      | @lst a vs _ ha fl =>
        have gf : ∀ b ∈ [a], H b = none ∧ ¬ Hid C.pl b ∧ ∃ o, H1 b = some o ∧ isTupO o = false := fun b m => by
          rw [List.mem_singleton.mp m]
          exact nw_fresh ha rfl
        exact ⟨_, S.setOwn (G := [a]) e hi hM (List.nodup_cons.mpr ⟨by simp, List.nodup_nil⟩) gf (.lst (nw_now e ha) (ownL_imm (fl.imm (ts gf) hf) hf))⟩
    | dK ds =>
      cases f with
      | @dK a vs _ ha fl =>
        have ha := rd_nw ha
        have gf : ∀ b ∈ [a], H b = none ∧ ¬ Hid C.pl b ∧ ∃ o, H1 b = some o ∧ isTupO o = false := fun b m => by
          rw [List.mem_singleton.mp m]
          exact nw_fresh ha rfl
        exact ⟨_, S.setOwn (G := [a]) e hi hM (List.nodup_cons.mpr ⟨by simp, List.nodup_nil⟩) gf (.dK (nw_now e ha) (ownK_imm (fl.imm (ts gf) hf) hf))⟩
    | dT ds =>
      cases f with
      | @dT a vs _ ha fl =>
        have ha := rd_nw ha
        have gf : ∀ b ∈ [a], H b = none ∧ ¬ Hid C.pl b ∧ ∃ o, H1 b = some o ∧ isTupO o = false := fun b m => by
          rw [List.mem_singleton.mp m]
          exact nw_fresh ha rfl
        exact ⟨_, S.setOwn (G := [a]) e hi hM (List.nodup_cons.mpr ⟨by simp, List.nodup_nil⟩) gf (.dT (nw_now e ha) (ownT_imm (fl.imm (ts gf) hf) hf))⟩
    | _ => exact im hf
def dSetO (i : Nat) (ta : DE) : DS := fun DD δ => ta δ fun d => flatD d = true ∧ i < δ.length ∧ DD.nx (δ.set i (some d))
theorem cvs_setO {i : Nat} : liftS C (dSetO i ta) E σ H → tAsg (lift C .n ta) (gName i) E σ H := fun ⟨H0, F, δ, DD, S, h, q1, q2, q3, q4⟩ =>
  ⟨H0, F, δ, _, S, h, fun d v H1 r e f => by
    obtain ⟨F', S'⟩ := S.setN e (by rw [S.len]; exact r.2.1) f (fun _ => r.1)
    exact q1 _ _ _ _ r.2.2 S'⟩
/-- a, b = x, y -/
def dPar (M : Nat → Bool) (i j : Nat) (ta tb : DE) : DS := fun DD δ => ta δ fun d => tb δ fun e => (i < δ.length ∧ j < δ.length) ∧ (M i = true → flatD d = true) ∧ (M j = true → flatD e = true) ∧ DD.nx ((δ.set i (some d)).set j (some e))
theorem cvs_par {i j : Nat} : liftS C (dPar C.M i j ta tb) E σ H → tPar i j (tCons (lift C .n ta) (tCons (lift C .n tb) tNil)) E σ H := fun ⟨H0, F, δ, DD, S, h, q1, q2, q3, q4⟩ =>
  ⟨H0, F, δ, _, S, h, fun d v H1 r1 e1 f1 => ⟨H0, F, δ, _, S.ext e1, r1, fun d2 v2 H2 r2 e2 f2 => by
    obtain ⟨⟨l1, l2⟩, g1, g2, r⟩ := r2
    refine ⟨v, v2, rfl, ?_⟩
    obtain ⟨F', S'⟩ := S.setN e1 (by rw [S.len]; exact l1) f1 g1
    obtain ⟨F2, S2⟩ := S'.setN e2 (by rw [List.length_set, S.len]; exact l2) f2 g2
    exact q1 _ _ _ _ r S2⟩⟩
end
end PD
set_option Elab.async false
set_option linter.all false
set_option maxRecDepth 100000
set_option maxHeartbeats 2000000
namespace PD
open PySem PySem.Spec PyProof.Rows L2
section
variable {C : Cn} {H0 H H1 H2 H' : Hp} {F : Nat → List Addr} {σ σ' : L2.St} {δ : DEnv} {Q : VK} {ta tb tc : DE} {z : Zn} {t : DA} {E : Ends} {s1 s2 : DS}
/-! ### an owned root changes, its items flat -/
/-- what slot i's root a holds changes: the new object o, no other owned objects below it -/
theorem SR.mut (S : SR C H0 F σ H δ) {i : Nat} {a : Addr} {d d' : D} {o : HO} (hM : C.M i = true) (hd : δ[i]? = some (some d)) (hσ : σ[i]? = some (some (.ref a))) (m : a ∈ F i) (to : isTupO o = false)
    (ow : Own C.K C.pl (msk F C.pl H) (upd H a o) (F i) (.ref a) d') : SR C H0 F σ (upd H a o) (δ.set i (some d')) := by
  have np := (S.dom i a m).1
  have hm : Sub (msk F C.pl H) (msk F C.pl (upd H a o)) := fun b u h => by
    obtain ⟨h1, h2, h3⟩ := of_msk h
    exact msk_of h1 h2 (by rw [upd_ne (fun e : b = a => h2 i (by rw [e]; exact m))]; exact h3)
  refine ⟨by rw [List.length_set]; exact S.len, S.nod, S.dis, S.fre, fun j b q => ?_, S.bas.trans hm, fun j e q h => ?_, fun j e q h => ?_, fun aP aL e => ?_⟩
  · obtain ⟨h1, u, h2, h3⟩ := S.dom j b q
    by_cases e : b = a
    · subst e; exact ⟨h1, o, upd_same, to⟩
    · exact ⟨h1, u, by rw [upd_ne e]; exact h2, h3⟩
  · rcases get_set_cases h with ⟨rfl, r, l⟩ | ⟨ne, h⟩
    · rw [hM] at q; cases q
    · obtain ⟨w, h1, h2⟩ := S.frz j e q h
      exact ⟨w, h1, h2.mono hm⟩
  · rcases get_set_cases h with ⟨rfl, r, l⟩ | ⟨ne, h⟩
    · cases r
      exact ⟨.ref a, hσ, ow.mono hm fun b _ => rfl⟩
    · obtain ⟨w, h1, h2⟩ := S.own j e q h
      exact ⟨w, h1, h2.mono hm fun b r => upd_ne fun e2 : b = a => ne (S.dis j i a (by rw [← e2]; exact r) m)⟩
  · obtain ⟨ns, i, v, c, s, ne, h1, h2, h3⟩ := S.pol aP aL e
    exact ⟨ns, i, v, c, s, ne, by rw [upd_ne (fun z : aP = a => np ⟨_, e, .inl z.symm⟩)]; exact h1, by rw [upd_ne (fun z : aL = a => np ⟨_, e, .inr z.symm⟩)]; exact h2, h3⟩
theorem SR.root (S : SR C H0 F σ H δ) {i : Nat} {d : D} (hM : C.M i = true) (hd : δ[i]? = some (some d)) : ∃ v, σ[i]? = some (some v) ∧ Own C.K C.pl (msk F C.pl H) H (F i) v d := S.own i d hM hd
theorem OwnL.append {K : PySem.W.Frag} {pl : Option (Addr × Addr)} {B Hx : Hp} : ∀ {F G : List Addr} {vs ws : List L2.V} {ds es : List D}, OwnL K pl B Hx F vs ds → OwnL K pl B Hx G ws es → OwnL K pl B Hx (F ++ G) (vs ++ ws) (ds ++ es)
  | _, _, _, _, _, _, .nil, r => r
  | _, _, _, _, _, _, .cons f r, s => by
    rw [List.append_assoc]
    exact .cons f (OwnL.append r s)
/-- an immutable value of now, in the owned world -/
theorem imm_msk (S : SR C H0 F σ H δ) {v : L2.V} {d : D} (f : Fz C.K C.pl (vis C.pl H) v d) (h : imm d = true) : Fz C.K C.pl (msk F C.pl H) v d := f.imm (fun a xs q => by
  obtain ⟨n, q⟩ := of_vis q
  refine msk_of n (fun j m => ?_) q
  obtain ⟨_, o, q2, t⟩ := S.dom j a m
  rw [q] at q2; cases q2; cases t) h
theorem immL_msk (S : SR C H0 F σ H δ) {v : List L2.V} {d : List D} (f : FzL C.K C.pl (vis C.pl H) v d) (h : immL d = true) : FzL C.K C.pl (msk F C.pl H) v d := f.imm (fun a xs q => by
  obtain ⟨n, q⟩ := of_vis q
  refine msk_of n (fun j m => ?_) q
  obtain ⟨_, o, q2, t⟩ := S.dom j a m
  rw [q] at q2; cases q2; cases t) h
theorem ne_root (S : SR C H0 F σ H δ) {i : Nat} {a : Addr} {G : List Addr} (e : F i = a :: G) : a ∈ F i ∧ ∀ b ∈ G, b ≠ a := by
  have n := S.nod i
  rw [e] at n ⊢
  exact ⟨List.mem_cons_self .., fun b m z => (List.nodup_cons.mp n).1 (z ▸ m)⟩
theorem own_lst {K : PySem.W.Frag} {pl : Option (Addr × Addr)} {B Hx : Hp} {G : List Addr} {v : L2.V} {ds : List D} (o : Own K pl B Hx G v (.lst ds)) : ∃ a G' vs, v = .ref a ∧ G = a :: G' ∧ Hx a = some (.lst vs) ∧ OwnL K pl B Hx G' vs ds := by
  cases o with
  | im h f => cases h
  | lst h r => exact ⟨_, _, _, rfl, rfl, h, r⟩
theorem own_dK {K : PySem.W.Frag} {pl : Option (Addr × Addr)} {B Hx : Hp} {G : List Addr} {v : L2.V} {ds : List (Key × D)} (o : Own K pl B Hx G v (.dK ds)) : ∃ a G' vs, v = .ref a ∧ G = a :: G' ∧ Hx a = some (.dK vs) ∧ OwnK K pl B Hx G' vs ds := by
  cases o with
  | im h f => cases h
  | dK h r => exact ⟨_, _, _, rfl, rfl, h, r⟩
theorem own_dT {K : PySem.W.Frag} {pl : Option (Addr × Addr)} {B Hx : Hp} {G : List Addr} {v : L2.V} {ds : List (List Key × D)} (o : Own K pl B Hx G v (.dT ds)) : ∃ a G' vs, v = .ref a ∧ G = a :: G' ∧ Hx a = some (.dT vs) ∧ OwnT K pl B Hx G' vs ds := by
  cases o with
  | im h f => cases h
  | dT h r => exact ⟨_, _, _, rfl, rfl, h, r⟩
theorem OwnL.len {K : PySem.W.Frag} {pl : Option (Addr × Addr)} {B Hx : Hp} : ∀ {F : List Addr} {vs : List L2.V} {ds : List D}, OwnL K pl B Hx F vs ds → vs.length = ds.length
  | _, _, _, .nil => rfl
  | _, _, _, .cons _ r => congrArg (· + 1) (OwnL.len r)
theorem OwnT.len {K : PySem.W.Frag} {pl : Option (Addr × Addr)} {B Hx : Hp} : ∀ {F : List Addr} {vs : List (List Key × L2.V)} {ds : List (List Key × D)}, OwnT K pl B Hx F vs ds → vs.length = ds.length
  | _, _, _, .nil => rfl
  | _, _, _, .cons _ r => congrArg (· + 1) (OwnT.len r)
theorem OwnK.len {K : PySem.W.Frag} {pl : Option (Addr × Addr)} {B Hx : Hp} : ∀ {F : List Addr} {vs : List (Key × L2.V)} {ds : List (Key × D)}, OwnK K pl B Hx F vs ds → vs.length = ds.length
  | _, _, _, .nil => rfl
  | _, _, _, .cons _ r => congrArg (· + 1) (OwnK.len r)
/-- xs.append(e) -/
def dAppend (i : Nat) (ta : DE) : DS := fun DD δ => match δ[i]? with
  | some (some (.lst ds)) => ta δ fun d => imm d = true ∧ ds.length < sizeLine ∧ DD.nx (δ.set i (some (.lst (ds ++ [d]))))
  | _ => False
theorem at_lst {α : Prop} {i : Nat} {f : List D → Prop} (h : match δ[i]? with
  | some (some (.lst ds)) => f ds
  | _ => False) : ∃ ds, δ[i]? = some (some (.lst ds)) ∧ f ds := by
  split at h
  · rename_i ds e; exact ⟨ds, e, h⟩
  · exact h.elim
theorem cvs_append {i : Nat} (hM : C.M i = true) : liftS C (dAppend i ta) E σ H → tDrop (tBM C.K "list" rAppend (tVar i) (tCons (lift C .e ta) tNil)) E σ H := fun ⟨H0, F, δ, DD, S, h, q1, q2, q3, q4⟩ => by
  obtain ⟨ds, hd, h⟩ := at_lst (α := True) (f := fun ds => ta δ fun d => imm d = true ∧ ds.length < sizeLine ∧ DD.nx (δ.set i (some (.lst (ds ++ [d]))))) h
  obtain ⟨v, hv, o⟩ := S.own i _ hM hd
  obtain ⟨a, G, vs, rfl, eF, ha, ol⟩ := own_lst o
  refine ⟨.ref a, hv, .inl ⟨rfl, vs, .inl (.inl ha)⟩, H0, F, δ, _, S, h, fun d w H1 r e f => ?_⟩
  have S1 := S.ext e
  obtain ⟨mem, off⟩ := ne_root S eF
  have np := (S.dom i a mem).1
  have ha1 := e.sub a _ np ha
  obtain ⟨v', hv', o'⟩ := S1.own i _ hM hd
  rw [hv] at hv'; cases hv'
  obtain ⟨a', G', vs', ev, eF', ha', ol'⟩ := own_lst o'
  cases ev
  rw [eF] at eF'; cases eF'
  rw [ha1] at ha'; cases ha'
  refine ⟨a, vs, w, rfl, rfl, ha1, by rw [ol.len]; exact r.2.1, q1 _ _ _ _ r.2.2 (S1.mut hM hd hv mem rfl ?_)⟩
  rw [eF]
  refine .lst upd_same ?_
  have := OwnL.append (ol'.mono (Sub.refl _) (H' := upd H1 a (.lst (vs ++ [w]))) fun b m => upd_ne (off b m)) (.cons (.im r.1 (imm_msk S1 f r.1)) .nil)
  simpa using this
/-- xs.extend(e), e a new list -/
def dExtend (i : Nat) (ta : DE) : DS := fun DD δ => match δ[i]? with
  | some (some (.lst ds)) => ta δ fun d => match d with
    | .lst es => immL es = true ∧ ds.length + es.length ≤ sizeLine ∧ DD.nx (δ.set i (some (.lst (ds ++ es))))
    | _ => False
  | _ => False
theorem cvs_extend {i : Nat} (hM : C.M i = true) : liftS C (dExtend i ta) E σ H → tDrop (tBM C.K "list" rExtend (tVar i) (tCons (lift C .n ta) tNil)) E σ H := fun ⟨H0, F, δ, DD, S, h, q1, q2, q3, q4⟩ => by
  obtain ⟨ds, hd, h⟩ := at_lst (α := True) (f := fun ds => ta δ fun d => match d with
    | .lst es => immL es = true ∧ ds.length + es.length ≤ sizeLine ∧ DD.nx (δ.set i (some (.lst (ds ++ es))))
    | _ => False) h
  obtain ⟨v, hv, o⟩ := S.own i _ hM hd
  obtain ⟨a, G, vs, rfl, eF, ha, ol⟩ := own_lst o
  refine ⟨.ref a, hv, .inl ⟨rfl, vs, .inl (.inl ha)⟩, H0, F, δ, _, S, h, fun d w H1 r e f => ?_⟩
  have S1 := S.ext e
  obtain ⟨mem, off⟩ := ne_root S eF
  have np := (S.dom i a mem).1
  have ha1 := e.sub a _ np ha
  obtain ⟨v', hv', o'⟩ := S1.own i _ hM hd
  rw [hv] at hv'; cases hv'
  obtain ⟨a', G', vs', ev, eF', ha', ol'⟩ := own_lst o'
  cases ev
  rw [eF] at eF'; cases eF'
  rw [ha1] at ha'; cases ha'
  cases d with
  | lst es =>
    cases f with
    | @lst b ws _ hb fl =>
      refine ⟨a, b, vs, ws, rfl, rfl, ha1, nw_now e hb, by rw [ol.len, fl.len]; exact r.2.1, q1 _ _ _ _ r.2.2 (S1.mut hM hd hv mem rfl ?_)⟩
      rw [eF]
      refine .lst upd_same ?_
      have := OwnL.append (ol'.mono (Sub.refl _) (H' := upd H1 a (.lst (vs ++ ws))) fun b m => upd_ne (off b m)) (ownL_imm (immL_msk S1 (fl.mono (nw_vis e)) r.1) r.1)
      simpa using this
  | _ => exact r.elim
mutual
theorem Own.flat {K : PySem.W.Frag} {pl : Option (Addr × Addr)} {B Hx : Hp} : ∀ {G : List Addr} {v : L2.V} {d : D}, Own K pl B Hx G v d → imm d = true → G = [] ∧ Fz K pl B v d
  | _, _, _, .im _ f, _ => ⟨rfl, f⟩
  | _, _, _, .lst _ _, z => by cases z
  | _, _, _, .dK _ _, z => by cases z
  | _, _, _, .dT _ _, z => by cases z
end
theorem OwnL.flat {K : PySem.W.Frag} {pl : Option (Addr × Addr)} {B Hx : Hp} : ∀ {G : List Addr} {vs : List L2.V} {ds : List D}, OwnL K pl B Hx G vs ds → immL ds = true → G = [] ∧ FzL K pl B vs ds
  | _, _, _, .nil, _ => ⟨rfl, .nil⟩
  | _, _, _, .cons f r, z => by
    simp only [immL, Bool.and_eq_true] at z
    obtain ⟨e1, f1⟩ := f.flat z.1
    obtain ⟨e2, f2⟩ := OwnL.flat r z.2
    exact ⟨by rw [e1, e2] <;> rfl, .cons f1 f2⟩
theorem OwnK.flat {K : PySem.W.Frag} {pl : Option (Addr × Addr)} {B Hx : Hp} : ∀ {G : List Addr} {vs : List (Key × L2.V)} {ds : List (Key × D)}, OwnK K pl B Hx G vs ds → immK ds = true → G = [] ∧ FzK K pl B vs ds
  | _, _, _, .nil, _ => ⟨rfl, .nil⟩
  | _, _, _, .cons f r, z => by
    simp only [immK, Bool.and_eq_true] at z
    obtain ⟨e1, f1⟩ := f.flat z.1
    obtain ⟨e2, f2⟩ := OwnK.flat r z.2
    exact ⟨by rw [e1, e2] <;> rfl, .cons f1 f2⟩
theorem OwnT.flat {K : PySem.W.Frag} {pl : Option (Addr × Addr)} {B Hx : Hp} : ∀ {G : List Addr} {vs : List (List Key × L2.V)} {ds : List (List Key × D)}, OwnT K pl B Hx G vs ds → immT ds = true → G = [] ∧ FzT K pl B vs ds
  | _, _, _, .nil, _ => ⟨rfl, .nil⟩
  | _, _, _, .cons f r, z => by
    simp only [immT, Bool.and_eq_true] at z
    obtain ⟨e1, f1⟩ := f.flat z.1
    obtain ⟨e2, f2⟩ := OwnT.flat r z.2
    exact ⟨by rw [e1, e2] <;> rfl, .cons f1 f2⟩
theorem FzL.set {K : PySem.W.Frag} {pl : Option (Addr × Addr)} {B : Hp} {v : L2.V} {d : D} (g : Fz K pl B v d) : ∀ {vs : List L2.V} {ds : List D} (n : Nat), FzL K pl B vs ds → FzL K pl B (vs.set n v) (ds.set n d)
  | _, _, _, .nil => .nil
  | _, _, 0, .cons _ r => .cons g r
  | _, _, n + 1, .cons h r => .cons h (FzL.set g n r)
/-! ### dicts over data -/
section
variable {κ : Type} [DecidableEq κ]
def valD (kvs : List (κ × D)) (k : κ) : Option D := (kvs.find? fun kv => decide (kv.1 = k)).map (·.2)
def putD (kvs : List (κ × D)) (k : κ) (d : D) : List (κ × D) :=
  if (kvs.any fun kv => decide (kv.1 = k)) = true then kvs.map (fun kv => if kv.1 = k then (kv.1, d) else kv) else kvs ++ [(k, d)]
end
def keyD : D → Option Key
  | .int i => some (.inl i)
  | .str w => some (.inr ⟨w.toArray⟩)
  | _ => none
def keysD : List D → Option (List Key)
  | [] => some []
  | d :: ds => match keyD d, keysD ds with
    | some k, some ks => some (k :: ks)
    | _, _ => none
def tkeyD : D → Option (List Key)
  | .tup (d :: ds) => keysD (d :: ds)
  | _ => none
section
variable {K : PySem.W.Frag} {pl : Option (Addr × Addr)} {B : Hp}
theorem keyD_ok {v : L2.V} {d : D} {k : Key} (f : Fz K pl B v d) (h : keyD d = some k) : v = kV k := by
  cases d with
  | int i => cases f; cases h; rfl
  | str w => cases f; cases h; rfl
  | _ => cases h
theorem keysD_ok : ∀ {vs : List L2.V} {ds : List D} {ks : List Key}, FzL K pl B vs ds → keysD ds = some ks → vs = ks.map kV
  | _, _, ks, .nil, h => by cases h; rfl
  | _, d :: ds, ks, .cons f r, h => by
    unfold keysD at h
    cases h1 : keyD d with
    | none => rw [h1] at h; cases h
    | some k =>
      cases h2 : keysD ds with
      | none => rw [h1, h2] at h; cases h
      | some l =>
        rw [h1, h2] at h
        cases h
        rw [List.map_cons, ← keyD_ok f h1, ← keysD_ok r h2]
theorem tkeyD_ok {v : L2.V} {d : D} {ks : List Key} (f : Fz K pl B v d) (h : tkeyD d = some ks) : ∃ b, v = .ref b ∧ B b = some (.tup (ks.map kV)) := by
  match d, f, h with
  | .tup (d :: ds), .tup (a := a) ha fl, h =>
    refine ⟨a, rfl, ?_⟩
    rw [← keysD_ok fl h]
    rcases ha with ha | ⟨hc, _⟩
    · exact ha
    · exfalso
      have h' : keysD (d :: ds) = some ks := h
      match d, ds, hc, h' with
      | .int 1, [.tup [], .tup [], .tup []], _, h' => exact nomatch h'
theorem FzK.val {k : Key} : ∀ {vs : List (Key × L2.V)} {ds : List (Key × D)}, FzK K pl B vs ds → (valD ds k = none ∧ valV vs k = none) ∨ ∃ d v, valD ds k = some d ∧ valV vs k = some v ∧ Fz K pl B v d
  | _, _, .nil => .inl ⟨rfl, rfl⟩
  | _, _, .cons (k := k') (d := d) (v := v) f r => by
    unfold valD valV
    rw [List.find?_cons, List.find?_cons]
    by_cases e : k' = k
    · simp only [e, decide_true, Option.map_some]
      exact .inr ⟨d, v, rfl, rfl, f⟩
    · simp only [e, decide_false]
      exact FzK.val r
theorem FzT.val {k : List Key} : ∀ {vs : List (List Key × L2.V)} {ds : List (List Key × D)}, FzT K pl B vs ds → (valD ds k = none ∧ valV vs k = none) ∨ ∃ d v, valD ds k = some d ∧ valV vs k = some v ∧ Fz K pl B v d
  | _, _, .nil => .inl ⟨rfl, rfl⟩
  | _, _, .cons (k := k') (d := d) (v := v) f r => by
    unfold valD valV
    rw [List.find?_cons, List.find?_cons]
    by_cases e : k' = k
    · simp only [e, decide_true, Option.map_some]
      exact .inr ⟨d, v, rfl, rfl, f⟩
    · simp only [e, decide_false]
      exact FzT.val r
theorem FzK.any {k : Key} : ∀ {vs : List (Key × L2.V)} {ds : List (Key × D)}, FzK K pl B vs ds → (vs.any fun kv => decide (kv.1 = k)) = ds.any fun kv => decide (kv.1 = k)
  | _, _, .nil => rfl
  | _, _, .cons f r => by rw [List.any_cons, List.any_cons, FzK.any r]
theorem FzT.any {k : List Key} : ∀ {vs : List (List Key × L2.V)} {ds : List (List Key × D)}, FzT K pl B vs ds → (vs.any fun kv => decide (kv.1 = k)) = ds.any fun kv => decide (kv.1 = k)
  | _, _, .nil => rfl
  | _, _, .cons f r => by rw [List.any_cons, List.any_cons, FzT.any r]
theorem FzK.app {k : Key} {v : L2.V} {d : D} (f : Fz K pl B v d) : ∀ {vs : List (Key × L2.V)} {ds : List (Key × D)}, FzK K pl B vs ds → FzK K pl B (vs ++ [(k, v)]) (ds ++ [(k, d)])
  | _, _, .nil => .cons f .nil
  | _, _, .cons g r => .cons g (FzK.app f r)
theorem FzT.app {k : List Key} {v : L2.V} {d : D} (f : Fz K pl B v d) : ∀ {vs : List (List Key × L2.V)} {ds : List (List Key × D)}, FzT K pl B vs ds → FzT K pl B (vs ++ [(k, v)]) (ds ++ [(k, d)])
  | _, _, .nil => .cons f .nil
  | _, _, .cons g r => .cons g (FzT.app f r)
theorem FzK.mapPut {k : Key} {v : L2.V} {d : D} (f : Fz K pl B v d) : ∀ {vs : List (Key × L2.V)} {ds : List (Key × D)}, FzK K pl B vs ds → FzK K pl B (vs.map fun kv => if kv.1 = k then (kv.1, v) else kv) (ds.map fun kv => if kv.1 = k then (kv.1, d) else kv)
  | _, _, .nil => .nil
  | _, _, .cons (k := k') g r => by
    rw [List.map_cons, List.map_cons]
    by_cases e : k' = k
    · simp only [e, if_true]; exact .cons f (FzK.mapPut f r)
    · simp only [e, if_false]; exact .cons g (FzK.mapPut f r)
theorem FzT.mapPut {k : List Key} {v : L2.V} {d : D} (f : Fz K pl B v d) : ∀ {vs : List (List Key × L2.V)} {ds : List (List Key × D)}, FzT K pl B vs ds → FzT K pl B (vs.map fun kv => if kv.1 = k then (kv.1, v) else kv) (ds.map fun kv => if kv.1 = k then (kv.1, d) else kv)
  | _, _, .nil => .nil
  | _, _, .cons (k := k') g r => by
    rw [List.map_cons, List.map_cons]
    by_cases e : k' = k
    · simp only [e, if_true]; exact .cons f (FzT.mapPut f r)
    · simp only [e, if_false]; exact .cons g (FzT.mapPut f r)
theorem FzK.put {k : Key} {v : L2.V} {d : D} {vs : List (Key × L2.V)} {ds : List (Key × D)} (r : FzK K pl B vs ds) (f : Fz K pl B v d) : FzK K pl B (putK vs k v) (putD ds k d) := by
  unfold putK putD
  rw [r.any]
  split
  · exact r.mapPut f
  · exact r.app f
theorem FzT.put {k : List Key} {v : L2.V} {d : D} {vs : List (List Key × L2.V)} {ds : List (List Key × D)} (r : FzT K pl B vs ds) (f : Fz K pl B v d) : FzT K pl B (putK vs k v) (putD ds k d) := by
  unfold putK putD
  rw [r.any]
  split
  · exact r.mapPut f
  · exact r.app f
theorem FzK.len : ∀ {vs : List (Key × L2.V)} {ds : List (Key × D)}, FzK K pl B vs ds → vs.length = ds.length
  | _, _, .nil => rfl
  | _, _, .cons _ r => congrArg (· + 1) (FzK.len r)
theorem FzT.len : ∀ {vs : List (List Key × L2.V)} {ds : List (List Key × D)}, FzT K pl B vs ds → vs.length = ds.length
  | _, _, .nil => rfl
  | _, _, .cons _ r => congrArg (· + 1) (FzT.len r)
end
theorem immK_put {ds : List (Key × D)} {k : Key} {d : D} (h : immK ds = true) (hd : imm d = true) : immK (putD ds k d) = true := by
  unfold putD
  split
  · rename_i _hx; clear _hx
    induction ds with
    | nil => rfl
    | cons x r ih =>
      obtain ⟨k', e⟩ := x
      simp only [immK, Bool.and_eq_true] at h
      rw [List.map_cons]
      by_cases q : k' = k
      · simp only [q, if_true, immK, Bool.and_eq_true]; exact ⟨hd, ih h.2⟩
      · simp only [q, if_false, immK, Bool.and_eq_true]; exact ⟨h.1, ih h.2⟩
  · rename_i _hx; clear _hx
    induction ds with
    | nil => simp only [List.nil_append, immK, Bool.and_eq_true]; exact ⟨hd, trivial⟩
    | cons x r ih =>
      obtain ⟨k', e⟩ := x
      simp only [immK, Bool.and_eq_true] at h
      simp only [List.cons_append, immK, Bool.and_eq_true]
      exact ⟨h.1, ih h.2⟩
theorem immT_put {ds : List (List Key × D)} {k : List Key} {d : D} (h : immT ds = true) (hd : imm d = true) : immT (putD ds k d) = true := by
  unfold putD
  split
  · rename_i _hx; clear _hx
    induction ds with
    | nil => rfl
    | cons x r ih =>
      obtain ⟨k', e⟩ := x
      simp only [immT, Bool.and_eq_true] at h
      rw [List.map_cons]
      by_cases q : k' = k
      · simp only [q, if_true, immT, Bool.and_eq_true]; exact ⟨hd, ih h.2⟩
      · simp only [q, if_false, immT, Bool.and_eq_true]; exact ⟨h.1, ih h.2⟩
  · rename_i _hx; clear _hx
    induction ds with
    | nil => simp only [List.nil_append, immT, Bool.and_eq_true]; exact ⟨hd, trivial⟩
    | cons x r ih =>
      obtain ⟨k', e⟩ := x
      simp only [immT, Bool.and_eq_true] at h
      simp only [List.cons_append, immT, Bool.and_eq_true]
      exact ⟨h.1, ih h.2⟩
end
end PD
set_option Elab.async false
set_option linter.all false
set_option maxRecDepth 100000
set_option maxHeartbeats 2000000
namespace PD
open PySem PySem.Spec PyProof.Rows L2
section
variable {C : Cn} {H0 H H1 H2 H' : Hp} {F : Nat → List Addr} {σ σ' : L2.St} {δ : DEnv} {Q : VK} {ta tb tc : DE} {z : Zn} {t : DA} {E : Ends} {s1 s2 : DS}
/-! ### dicts read -/
def fGet : D → D → (Option D → Prop) → Prop
  | .dK kvs, e, R => match keyD e with
    | some k => R (valD kvs k)
    | none => False
  | .dT kvs, e, R => match tkeyD e with
    | some k => R (valD kvs k)
    | none => False
  | _, _, _ => False
/-- d[k] in terms of the layer's DGet -/
theorem fGet_ok {K : PySem.W.Frag} {pl : Option (Addr × Addr)} {B Hx : Hp} {x y : L2.V} {d e : D} {R : Option D → Prop} (sub : ∀ a o, B a = some o → Hx a = some o) (fx : Fz K pl B x d) (fy : Fz K pl B y e) (h : fGet d e R) :
    ∃ a, x = .ref a ∧ IsD Hx a ∧ ((DGet Hx a y none ∧ R none) ∨ ∃ v g, DGet Hx a y (some v) ∧ R (some g) ∧ Fz K pl B v g) := by
  cases d with
  | dK kvs =>
    cases fx with
    | @dK a vs _ ha fl =>
      have ha' : Rd Hx a (.dK vs) := rd_mono sub ha
      have h : (match keyD e with
        | some k => R (valD kvs k)
        | none => False) := h
      cases hk : keyD e with
      | none => rw [hk] at h; exact h.elim
      | some k =>
        rw [hk] at h
        have h : R (valD kvs k) := h
        have ey := keyD_ok fy hk
        refine ⟨a, rfl, .inl ⟨vs, ha'⟩, ?_⟩
        rcases fl.val (k := k) with ⟨h1, h2⟩ | ⟨g, v, h1, h2, h3⟩
        · rw [h1] at h; exact .inl ⟨.inl ⟨vs, k, ha', ey, h2.symm⟩, h⟩
        · rw [h1] at h; exact .inr ⟨v, g, .inl ⟨vs, k, ha', ey, h2.symm⟩, h, h3⟩
  | dT kvs =>
    cases fx with
    | @dT a vs _ ha fl =>
      have ha' : Rd Hx a (.dT vs) := rd_mono sub ha
      have h : (match tkeyD e with
        | some k => R (valD kvs k)
        | none => False) := h
      cases hk : tkeyD e with
      | none => rw [hk] at h; exact h.elim
      | some k =>
        rw [hk] at h
        have h : R (valD kvs k) := h
        obtain ⟨b, ey, hb⟩ := tkeyD_ok fy hk
        refine ⟨a, rfl, .inr ⟨vs, ha'⟩, ?_⟩
        rcases fl.val (k := k) with ⟨h1, h2⟩ | ⟨g, v, h1, h2, h3⟩
        · rw [h1] at h; exact .inl ⟨.inr ⟨vs, k, b, ha', ey, sub _ _ hb, h2.symm⟩, h⟩
        · rw [h1] at h; exact .inr ⟨v, g, .inr ⟨vs, k, b, ha', ey, sub _ _ hb, h2.symm⟩, h, h3⟩
  | _ => exact h.elim
/-- d[k] -/
def dGet (ta tb : DE) : DE := fun δ R => ta δ fun d => tb δ fun e => fGet d e fun o => match o with
  | some g => R g
  | none => False
theorem vis_sub {pl : Option (Addr × Addr)} : ∀ a o, vis pl H a = some o → H a = some o := fun a o h => (of_vis h).2
theorem cv_dget : lift C .e (dGet ta tb) σ H Q → tDGet (lift C .e ta) (lift C .e tb) σ H Q := fun ⟨H0, F, δ, R, S, h, q⟩ =>
  ⟨H0, F, δ, _, S, h, fun d v H1 r1 e1 f1 => ⟨H0, F, δ, _, S.ext e1, r1, fun d2 v2 H2 r2 e2 f2 => by
    obtain ⟨a, rfl, _, g⟩ := fGet_ok vis_sub (f1.mono (vis_mono e2)) f2 r2
    rcases g with ⟨_, g⟩ | ⟨v, g, h1, h2, h3⟩
    · exact g.elim
    · exact ⟨a, v, rfl, h1, q g v H2 h2 (e1.trans e2) h3⟩⟩⟩
/-- k in d, k not in d -/
def dDIn (ta tb : DE) : DE := fun δ R => ta δ fun d => tb δ fun e => fGet e d fun o => R (.bl o.isSome)
def dDNotIn (ta tb : DE) : DE := fun δ R => ta δ fun d => tb δ fun e => fGet e d fun o => R (.bl (!o.isSome))
theorem cv_din : lift C .n (dDIn ta tb) σ H Q → tDIn (lift C .e ta) (lift C .e tb) σ H Q := fun ⟨H0, F, δ, R, S, h, q⟩ =>
  ⟨H0, F, δ, _, S, h, fun d v H1 r1 e1 f1 => ⟨H0, F, δ, _, S.ext e1, r1, fun d2 v2 H2 r2 e2 f2 => by
    obtain ⟨a, rfl, _, g⟩ := fGet_ok vis_sub f2 (f1.mono (vis_mono e2)) r2
    rcases g with ⟨h1, g⟩ | ⟨v, g, h1, h2, h3⟩
    · exact ⟨a, none, rfl, h1, q _ _ H2 g (e1.trans e2) (.bl _)⟩
    · exact ⟨a, some v, rfl, h1, q _ _ H2 h2 (e1.trans e2) (.bl _)⟩⟩⟩
theorem cv_dnotin : lift C .n (dDNotIn ta tb) σ H Q → tDNotIn (lift C .e ta) (lift C .e tb) σ H Q := fun ⟨H0, F, δ, R, S, h, q⟩ =>
  ⟨H0, F, δ, _, S, h, fun d v H1 r1 e1 f1 => ⟨H0, F, δ, _, S.ext e1, r1, fun d2 v2 H2 r2 e2 f2 => by
    obtain ⟨a, rfl, _, g⟩ := fGet_ok vis_sub f2 (f1.mono (vis_mono e2)) r2
    rcases g with ⟨h1, g⟩ | ⟨v, g, h1, h2, h3⟩
    · exact ⟨a, none, rfl, h1, q _ _ H2 g (e1.trans e2) (.bl _)⟩
    · exact ⟨a, some v, rfl, h1, q _ _ H2 h2 (e1.trans e2) (.bl _)⟩⟩⟩
/-! ### dicts written -/
/-- d[k] = v, d an owned flat dict -/
def dPut (i : Nat) (tk tv : DE) : DS := fun DD δ => tv δ fun v => imm v = true ∧ match δ[i]? with
  | some (some (.dK kvs)) => tk δ fun e => immK kvs = true ∧ kvs.length < sizeLine ∧ match keyD e with
    | some k => DD.nx (δ.set i (some (.dK (putD kvs k v))))
    | none => False
  | some (some (.dT kvs)) => tk δ fun e => immT kvs = true ∧ kvs.length < sizeLine ∧ match tkeyD e with
    | some k => DD.nx (δ.set i (some (.dT (putD kvs k v))))
    | none => False
  | _ => False
theorem cvs_put {i : Nat} {tk tv : DE} (hM : C.M i = true) : liftS C (dPut i tk tv) E σ H → sDPut (tVar i) (lift C .e tk) (lift C .e tv) E σ H := fun ⟨H0, F, δ, DD, S, h, q1, q2, q3, q4⟩ =>
  ⟨H0, F, δ, _, S, h, fun v w H1 r e1 f1 => by
    obtain ⟨iv, r⟩ := r
    have S1 := S.ext e1
    split at r
    · rename_i kvs hd
      obtain ⟨u, hv, o⟩ := S1.own i _ hM hd
      obtain ⟨a, G, vs, rfl, eF, ha, ol⟩ := own_dK o
      refine ⟨.ref a, hv, H0, F, δ, _, S1, r, fun e y H2 r2 e2 f2 => ?_⟩
      obtain ⟨ik, hl, r2⟩ := r2
      have S2 := S1.ext e2
      obtain ⟨mem, off⟩ := ne_root S1 eF
      have ha2 := e2.sub a _ (S1.dom i a mem).1 ha
      obtain ⟨u', hv', o'⟩ := S2.own i _ hM hd
      rw [hv] at hv'; cases hv'
      obtain ⟨a', G', vs', ev, eF', ha', ol'⟩ := own_dK o'
      cases ev
      rw [eF] at eF'; cases eF'
      rw [ha2] at ha'; cases ha'
      obtain ⟨eG, fl⟩ := ol'.flat ik
      subst eG
      cases hk : keyD e with
      | none => rw [hk] at r2; exact r2.elim
      | some k =>
        rw [hk] at r2
        have ey := keyD_ok f2 hk
        refine ⟨a, _, rfl, .inl ⟨vs, k, ha2, ey, by rw [ol.len]; exact hl, rfl⟩, q1 _ _ _ _ r2 (S2.mut hM hd hv mem rfl ?_)⟩
        rw [eF]
        exact .dK upd_same (ownK_imm (fl.put (imm_msk S2 (f1.mono (vis_mono e2)) iv)) (immK_put ik iv))
    · rename_i kvs hd
      obtain ⟨u, hv, o⟩ := S1.own i _ hM hd
      obtain ⟨a, G, vs, rfl, eF, ha, ol⟩ := own_dT o
      refine ⟨.ref a, hv, H0, F, δ, _, S1, r, fun e y H2 r2 e2 f2 => ?_⟩
      obtain ⟨ik, hl, r2⟩ := r2
      have S2 := S1.ext e2
      obtain ⟨mem, off⟩ := ne_root S1 eF
      have ha2 := e2.sub a _ (S1.dom i a mem).1 ha
      obtain ⟨u', hv', o'⟩ := S2.own i _ hM hd
      rw [hv] at hv'; cases hv'
      obtain ⟨a', G', vs', ev, eF', ha', ol'⟩ := own_dT o'
      cases ev
      rw [eF] at eF'; cases eF'
      rw [ha2] at ha'; cases ha'
      obtain ⟨eG, fl⟩ := ol'.flat ik
      subst eG
      cases hk : tkeyD e with
      | none => rw [hk] at r2; exact r2.elim
      | some k =>
        rw [hk] at r2
        obtain ⟨b, ey, hb⟩ := tkeyD_ok f2 hk
        refine ⟨a, _, rfl, .inr ⟨vs, k, b, ha2, ey, vis_sub _ _ hb, by rw [ol.len]; exact hl, rfl⟩, q1 _ _ _ _ r2 (S2.mut hM hd hv mem rfl ?_)⟩
        rw [eF]
        exact .dT upd_same (ownT_imm (fl.put (imm_msk S2 (f1.mono (vis_mono e2)) iv)) (immT_put ik iv))
    · exact r.elim⟩
/-- d.setdefault(k, v) as a statement: d an owned flat dict of ints and texts -/
def dSetd (i : Nat) (tk tv : DE) : DS := fun DD δ => match δ[i]? with
  | some (some (.dK kvs)) => tk δ fun e => tv δ fun v => imm v = true ∧ immK kvs = true ∧ kvs.length < sizeLine ∧ match keyD e with
    | some k => match valD kvs k with
      | some _ => DD.nx δ
      | none => DD.nx (δ.set i (some (.dK (putD kvs k v))))
    | none => False
  | _ => False
theorem cvs_setd {i : Nat} {tk tv : DE} (hM : C.M i = true) : liftS C (dSetd i tk tv) E σ H → tDrop (tDSetd (tVar i) (lift C .e tk) (lift C .e tv)) E σ H := fun ⟨H0, F, δ, DD, S, h, q1, q2, q3, q4⟩ => by
  unfold dSetd at h
  split at h
  · rename_i kvs hd
    obtain ⟨u, hv, o⟩ := S.own i _ hM hd
    obtain ⟨a, G, vs, rfl, eF, ha, ol⟩ := own_dK o
    refine ⟨.ref a, hv, a, rfl, .inl ⟨vs, .inl ha⟩, H0, F, δ, _, S, h, fun e y H1 r e1 f1 => ⟨H0, F, δ, _, S.ext e1, r, fun v w H2 r2 e2 f2 => ?_⟩⟩
    obtain ⟨iv, ik, hl, r2⟩ := r2
    have S2 := (S.ext e1).ext e2
    obtain ⟨mem, off⟩ := ne_root S eF
    have ha2 := (e1.trans e2).sub a _ (S.dom i a mem).1 ha
    obtain ⟨u', hv', o'⟩ := S2.own i _ hM hd
    rw [hv] at hv'; cases hv'
    obtain ⟨a', G', vs', ev, eF', ha', ol'⟩ := own_dK o'
    cases ev
    rw [eF] at eF'; cases eF'
    rw [ha2] at ha'; cases ha'
    obtain ⟨eG, fl⟩ := ol'.flat ik
    subst eG
    cases hk : keyD e with
    | none => rw [hk] at r2; exact r2.elim
    | some k =>
      rw [hk] at r2
      dsimp only at r2
      have ey := keyD_ok f1 hk
      refine ⟨vs, k, ha2, ey, by rw [ol.len]; exact hl, fun g hg => ?_, fun hg => ?_⟩
      · rcases fl.val (k := k) with ⟨h1, h2⟩ | ⟨g', v', h1, h2, h3⟩
        · rw [h2] at hg; cases hg
        · rw [h1] at r2; exact q1 _ _ _ _ r2 S2
      · rcases fl.val (k := k) with ⟨h1, h2⟩ | ⟨g', v', h1, h2, h3⟩
        · rw [h1] at r2
          refine q1 _ _ _ _ r2 (S2.mut hM hd hv mem rfl ?_)
          rw [eF]
          exact .dK upd_same (ownK_imm (fl.put (imm_msk S2 f2 iv)) (immK_put ik iv))
        · rw [h2] at hg; cases hg
  · exact h.elim
/-- xs[k] = v, xs an owned flat list -/
def dSetAt (i : Nat) (tk tv : DE) : DS := fun DD δ => tv δ fun v => imm v = true ∧ match δ[i]? with
  | some (some (.lst ds)) => tk δ fun e => immL ds = true ∧ match e with
    | .int j => match ixN ds.length j with
      | some n => DD.nx (δ.set i (some (.lst (ds.set n v))))
      | none => False
    | _ => False
  | _ => False
theorem immL_set {ds : List D} {v : D} (h : immL ds = true) (hv : imm v = true) : ∀ n, immL (ds.set n v) = true := by
  induction ds with
  | nil => intro n; rfl
  | cons d r ih =>
    simp only [immL, Bool.and_eq_true] at h
    intro n
    cases n with
    | zero => simp only [List.set_cons_zero, immL, Bool.and_eq_true]; exact ⟨hv, h.2⟩
    | succ n => simp only [List.set_cons_succ, immL, Bool.and_eq_true]; exact ⟨h.1, ih h.2 n⟩
theorem cvs_setAt {i : Nat} {tk tv : DE} (hM : C.M i = true) : liftS C (dSetAt i tk tv) E σ H → tAsg (lift C .e tv) (gSub (tVar i) (lift C .e tk) rSetL) E σ H := fun ⟨H0, F, δ, DD, S, h, q1, q2, q3, q4⟩ =>
  ⟨H0, F, δ, _, S, h, fun v w H1 r e1 f1 => by
    obtain ⟨iv, r⟩ := r
    have S1 := S.ext e1
    split at r
    · rename_i ds hd
      obtain ⟨u, hv, o⟩ := S1.own i _ hM hd
      obtain ⟨a, G, vs, rfl, eF, ha, ol⟩ := own_lst o
      refine ⟨.ref a, hv, H0, F, δ, _, S1, r, fun e y H2 r2 e2 f2 => ?_⟩
      obtain ⟨ik, r2⟩ := r2
      have S2 := S1.ext e2
      obtain ⟨mem, off⟩ := ne_root S1 eF
      have ha2 := e2.sub a _ (S1.dom i a mem).1 ha
      obtain ⟨u', hv', o'⟩ := S2.own i _ hM hd
      rw [hv] at hv'; cases hv'
      obtain ⟨a', G', vs', ev, eF', ha', ol'⟩ := own_lst o'
      cases ev
      rw [eF] at eF'; cases eF'
      rw [ha2] at ha'; cases ha'
      obtain ⟨eG, fl⟩ := ol'.flat ik
      subst eG
      cases e with
      | int j =>
        cases f2
        dsimp only at r2
        cases hn : ixN ds.length j with
        | none => rw [hn] at r2; exact r2.elim
        | some n =>
          rw [hn] at r2
          refine ⟨a, vs, j, n, rfl, rfl, ha2, by rw [ol.len]; exact hn, q1 _ _ _ _ r2 (S2.mut hM hd hv mem rfl ?_)⟩
          rw [eF]
          exact .lst upd_same (ownL_imm (FzL.set (imm_msk S2 (f1.mono (vis_mono e2)) iv) n fl) (immL_set ik iv n))
      | _ => exact r2.elim
    · exact r.elim⟩
/-! ### loops -/
def dForL (tg : DG) (tb : DS) (DD : DEnds) : List D → DEnv → Prop
  | [], δ => DD.nx δ
  | x :: xs, δ => tg x δ fun δ1 => tb { nx := dForL tg tb DD xs, ct := dForL tg tb DD xs, bk := DD.nx, rt := DD.rt } δ1
def dFor (ti : DA) (tg : DG) (tb : DS) : DS := fun DD δ => ti δ fun xs => dForL tg tb DD xs δ
theorem SR.reb (S : SR C H0 F σ H δ) : SR C (msk F C.pl H) F σ H δ := { S with bas := fun a o h => (of_vis h).2 }
theorem SR.reb' {B : Hp} (S : SR C B F σ H δ) (hb : Sub (vis C.pl H0) B) : SR C H0 F σ H δ := { S with bas := fun a o h => S.bas a o (vis_of (of_vis h).1 (hb a o h)) }
theorem nw_reb {pl : Option (Addr × Addr)} {B : Hp} (hb : Sub (vis pl H0) B) (e4 : ∀ a o, ¬ Hid pl a → B a = some o → H' a = some o) : Sub (nw pl B H') (nw pl H0 H') := fun a o h => by
  obtain ⟨n, h1⟩ := of_nw h
  rcases h1 with ⟨h1, h2, h3⟩ | ⟨xs, h1, rfl⟩
  · refine nw_new n ?_ h2 h3
    cases q : H0 a with
    | none => rfl
    | some u => rw [hb a u (vis_of n q)] at h1; cases h1
  · cases q : H0 a with
    | none => exact nw_new n q (e4 a _ n h1) rfl
    | some u =>
      have := hb a u (vis_of n q)
      rw [h1] at this; cases this
      exact nw_tup n q
theorem cvs_for {ti : DA} {tg : DG} {tb : DS} {V : Nat → Prop} : liftS C (dFor ti tg tb) E σ H → tFor (liftI C .f ti) (liftG C V tg) (liftS C tb) E σ H := fun ⟨H0, F, δ, DD, S, h, q1, q2, q3, q4⟩ =>
  ⟨H0, F, δ, _, S, h, fun xs J H1 r1 e1 ok => by
    have S1 := S.ext e1
    have hb : Sub (vis C.pl H0) (msk F C.pl H1) := S1.bas
    refine ⟨fun i m σ' H' => m = xs.length - i ∧ i ≤ xs.length ∧ ∃ F' δ', SR C (msk F C.pl H1) F' σ' H' δ' ∧ dForL tg tb DD (xs.drop i) δ', ⟨_, rfl, Nat.zero_le _, F, δ, S1.reb, r1⟩, ?_⟩
    rintro i m σ' H' ⟨rfl, hi, F', δ', S', hl⟩
    have okB : Sub (msk F C.pl H1) H' := fun a o h => (of_msk (S'.bas a o (vis_of (of_msk h).1 h))).2.2
    have okM : ∀ {F2 : Nat → List Addr} {σ2 : L2.St} {H2 : Hp} {δ2 : DEnv}, SR C (msk F C.pl H1) F2 σ2 H2 δ2 → Sub (msk F C.pl H1) (msk F2 C.pl H2) := fun S2 a o h => S2.bas a o (vis_of (of_msk h).1 h)
    obtain ⟨o1, o2⟩ := ok i H' okB
    by_cases hlt : i < xs.length
    · have hx : xs[i]? = some xs[i] := List.getElem?_eq_getElem hlt
      obtain ⟨g, y⟩ := o2 _ hx
      rw [drop_cons hx] at hl
      refine .inr ⟨g, fun σ2 H2 => ∃ F2 δ2, SR C (msk F C.pl H1) F2 σ2 H2 δ2 ∧ dForL tg tb DD (xs.drop (i + 1)) δ2, fun σ2 H2 ⟨F2, δ2, h1, h2⟩ => ⟨xs.length - (i + 1), by omega, rfl, hlt, F2, δ2, h1, h2⟩, fun x H2 yl => ?_⟩
      obtain ⟨e2, fx⟩ := y x H2 yl
      have S2 := S'.ext e2
      refine ⟨_, F', δ', _, _, S2, fx.mono (jn_msk S' e2 (okM S2)), hl, fun δ3 σ3 r3 S3 _ => ?_⟩
      refine ⟨_, F', δ3, _, S3, r3, fun F4 δ4 σ4 H4 r4 S4 => ⟨F4, δ4, S4, r4⟩, fun F4 δ4 σ4 H4 r4 S4 => q1 _ _ _ _ r4 (S4.reb' hb), fun F4 δ4 σ4 H4 r4 S4 => ⟨F4, δ4, S4, r4⟩, fun d v H4 r4 e4 p4 f4 => q4 d v H4 r4 (fun a o n h => e4 a o n (hb a o (vis_of n h))) p4 (f4.mono (nw_reb hb e4))⟩
    · have e : i = xs.length := by omega
      subst e
      rw [List.drop_length] at hl
      exact .inl ⟨o1 (Nat.le_refl _), q1 _ _ _ _ hl (S'.reb' hb)⟩⟩
end
end PD
set_option Elab.async false
set_option linter.all false
set_option maxRecDepth 100000
set_option maxHeartbeats 2000000
namespace PD
open PySem PySem.Spec PyProof.Rows L2
section
variable {C : Cn} {H0 H H1 H2 H' : Hp} {F : Nat → List Addr} {σ σ' : L2.St} {δ : DEnv} {Q : VK} {ta tb tc : DE} {z : Zn} {t : DA} {E : Ends} {s1 s2 : DS}
def dWhile (c : DTt) (tb : DS) : DS := fun DD δ => ∃ W : Nat → DEnv → Prop, (∃ m, W m δ) ∧ ∀ m δ, W m δ → c δ fun b => if b = true then tb { nx := fun δ' => ∃ m', m' < m ∧ W m' δ', ct := fun δ' => ∃ m', m' < m ∧ W m' δ', bk := DD.nx, rt := DD.rt } δ else DD.nx δ
theorem cvs_while {c : DTt} {tb : DS} : liftS C (dWhile c tb) E σ H → tWhile (liftT C c) (liftS C tb) E σ H := fun ⟨H0, F, δ, DD, S, ⟨W, ⟨m0, w0⟩, hW⟩, q1, q2, q3, q4⟩ => by
  refine ⟨fun m σ' H' => ∃ F' δ', SR C H0 F' σ' H' δ' ∧ W m δ', ⟨m0, F, δ, S, w0⟩, ?_⟩
  rintro m σ' H' ⟨F', δ', S', w⟩
  refine ⟨H0, F', δ', _, S', hW m δ' w, fun b H1 r e => ?_⟩
  cases b with
  | true =>
    refine ⟨fun σ2 H2 => ∃ F2 δ2, SR C H0 F2 σ2 H2 δ2 ∧ ∃ m', m' < m ∧ W m' δ2, fun σ2 H2 ⟨F2, δ2, S2, m', hm, w'⟩ => ⟨m', hm, F2, δ2, S2, w'⟩, ?_⟩
    exact ⟨H0, F', δ', _, S'.ext e, r, fun F2 δ2 σ2 H2 r2 S2 => ⟨F2, δ2, S2, r2⟩, q1, fun F2 δ2 σ2 H2 r2 S2 => ⟨F2, δ2, S2, r2⟩, q4⟩
  | false => exact q1 _ _ _ _ r (S'.ext e)
/-- x += e, ints -/
def dAug (f : Int → Int → Int) (i : Nat) (ta : DE) : DS := fun DD δ => match δ[i]? with
  | some (some (.int a)) => ta δ fun d => match d with
    | .int b => DD.nx (δ.set i (some (.int (f a b))))
    | _ => False
  | _ => False
theorem cvs_aug {f : Int → Int → Int} {i : Nat} (hM : C.M i = false) : liftS C (dAug f i ta) E σ H → tAug i (lift C .e ta) (ipI f) E σ H := fun ⟨H0, F, δ, DD, S, h, q1, q2, q3, q4⟩ => by
  unfold dAug at h
  split at h
  · rename_i a hd
    obtain ⟨v, hv, fv⟩ := S.frz i _ hM hd
    cases fv
    refine ⟨_, hv, H0, F, δ, _, S, h, fun d w H1 r e f1 => ?_⟩
    cases d with
    | int b =>
      cases f1
      exact ⟨a, b, rfl, rfl, q1 _ _ _ _ r ((S.ext e).set hM (.int _))⟩
    | _ => exact r.elim
  · exact h.elim
/-! ### calls -/
abbrev DF := List D → (D → Prop) → Prop
def SpD (K : PySem.W.Frag) (pl : Option (Addr × Addr)) (f : DF) : Sp := fun vs H Q _ => ∃ ds R, FzL K pl (vis pl H) vs ds ∧ PoolOk pl H ∧ f ds R ∧ ∀ d v H', R d → Xt pl H H' → Fz K pl (nw pl H H') v d → Q v H'
def dCall (f : DF) (t : DA) : DE := fun δ R => t δ fun ds => f ds R
theorem cv_call {f : DF} {E' : XK} : lift C .n (dCall f t) σ H Q → tCall (SpD C.K C.pl f) [] E' (liftA C .e t) σ H Q := fun ⟨H0, F, δ, R, S, h, q⟩ =>
  ⟨H0, F, δ, _, S, h, fun ds vs H1 r e f1 => ⟨ds, R, by rw [List.append_nil]; exact f1, (S.ext e).pol, r, fun d v H2 r2 e2 f2 => q d v H2 r2 (e.trans e2) (f2.mono (nw_tail e e2))⟩⟩
def startD (n : Nat) (ds : List D) : DEnv := ds.map some ++ List.replicate (n - ds.length) none
theorem startD_some {n i : Nat} {ds : List D} {d : D} (h : (startD n ds)[i]? = some (some d)) : ds[i]? = some d := by
  unfold startD at h
  by_cases hi : i < ds.length
  · rw [List.getElem?_append_left (by simpa using hi), List.getElem?_map] at h
    cases q : ds[i]? with
    | none => rw [q] at h; cases h
    | some e => rw [q] at h; cases h; rfl
  · rw [List.getElem?_append_right (by simpa using Nat.le_of_not_lt hi), List.getElem?_replicate] at h
    split at h <;> cases h
theorem SR.begin {N : List Str} {vs : List L2.V} {ds : List D} (f : FzL C.K C.pl (vis C.pl H) vs ds) (p : PoolOk C.pl H) (hM : ∀ i, i < ds.length → C.M i = false) : SR C H (fun _ => []) (L2.start N vs) H (startD N.length ds) := by
  have e : msk (fun _ => []) C.pl H = vis C.pl H := by
    funext a
    unfold msk vis
    by_cases n : Hid C.pl a
    · rw [if_pos n, if_pos (.inl n)]
    · rw [if_neg n, if_neg (fun z => z.elim n fun ⟨i, h⟩ => (nomatch h))]
  refine ⟨?_, fun _ => List.nodup_nil, fun i j a m => (by cases m), fun _ _ _ => rfl, fun i a m => (by cases m), by rw [e]; exact Sub.refl _, fun i d m h => ?_, fun i d m h => ?_, p⟩
  · unfold L2.start startD
    rw [List.length_append, List.length_append, List.length_map, List.length_map, List.length_replicate, List.length_replicate, f.len]
  · have h := startD_some h
    obtain ⟨v, h1, h2⟩ := f.at_ h
    refine ⟨v, ?_, by rw [e]; exact h2⟩
    unfold L2.start
    have hi : i < vs.length := (List.getElem?_eq_some_iff.mp h1).1
    rw [List.getElem?_append_left (by simpa using hi), List.getElem?_map, h1]
    rfl
  · have h := startD_some h
    have hi : i < ds.length := (List.getElem?_eq_some_iff.mp h).1
    rw [hM i hi] at m; cases m
/-- a def's body read by its meaning -/
theorem body_rd {K : PySem.W.Frag} {pl : Option (Addr × Addr)} {N : List Str} {M : Nat → Bool} {fs : DF} {sem : DS} {vs : List L2.V} {E' : XK} (h : SpD K pl fs vs H Q E') (hM : ∀ ds R, fs ds R → ∀ i, i < ds.length → M i = false)
    (pure_ : ∀ ds R, fs ds R → sem { nx := fun _ => R .non, rt := R } (startD N.length ds)) : liftS ⟨K, pl, M⟩ sem { nx := fun _ H' => Q .non H', rt := Q } (L2.start N vs) H := by
  obtain ⟨ds, R, f, p, r, q⟩ := h
  exact ⟨H, fun _ => [], startD N.length ds, { nx := fun _ => R .non, rt := R }, SR.begin (C := ⟨K, pl, M⟩) f p (hM ds R r), pure_ ds R r, fun F' δ' σ' H' r S => q _ _ H' r S.xt .non, fun _ _ _ _ r => r.elim, fun _ _ _ _ r => r.elim,
    fun d v H' r sb p f => q d v H' r ⟨sb, fun _ => p⟩ f⟩
theorem len_of {K : PySem.W.Frag} {pl : Option (Addr × Addr)} {fs : DF} {n : Nat} (h : ∀ ds R, fs ds R → ds.length = n) : ∀ vs H Q E, SpD K pl fs vs H Q E → vs.length = n := fun vs H Q E ⟨ds, R, f, _, r, _⟩ => f.len.trans (h ds R r)
end
end PD
set_option Elab.async false
set_option linter.all false
set_option maxRecDepth 100000
set_option maxHeartbeats 2000000
namespace PD
open PySem PySem.Spec PyProof.Rows L2
/-! ### data as the library's data -/
mutual
def toPy : D → PyData
  | .non => .none
  | .bl b => .bool b
  | .int i => .int i
  | .str w => .str ⟨w.toArray⟩
  | .tup xs => .tuple (toPyL xs)
  | .lst xs => .list (toPyL xs)
  | _ => .none
def toPyL : List D → List PyData
  | [] => []
  | d :: ds => toPy d :: toPyL ds
end
mutual
/-- data that is compared: no dicts, nested at most n deep, texts of code points -/
def sh : Nat → D → Bool
  | _, .non => true
  | _, .bl _ => true
  | _, .int _ => true
  | _, .str w => w.all (· < 1114112)
  | n + 1, .tup xs => shL n xs
  | n + 1, .lst xs => shL n xs
  | _, _ => false
def shL : Nat → List D → Bool
  | _, [] => true
  | n, d :: ds => sh n d && shL n ds
end
def eqb (d e : D) : Bool := PyData.eqv (toPy d) (toPy e)
section
variable {K : PySem.W.Frag} {pl : Option (Addr × Addr)} {B H : Hp}
mutual
theorem sh_lay : ∀ {n : Nat} {d : D}, sh n d = true → (toPy d).canLay0 = true ∧ (toPy d).depth ≤ n
  | n, .non, _ => ⟨by simp [toPy, PyData.canLay0], by simp [toPy, PyData.depth]⟩
  | n, .bl _, _ => ⟨by simp [toPy, PyData.canLay0], by simp [toPy, PyData.depth]⟩
  | n, .int _, _ => ⟨by simp [toPy, PyData.canLay0], by simp [toPy, PyData.depth]⟩
  | n, .str w, h => ⟨by
      have h : w.all (· < 1114112) = true := by unfold sh at h; exact h
      simp only [toPy, PyData.canLay0, PyData.strOk]
      simpa using h, by simp [toPy, PyData.depth]⟩
  | 0, .tup xs, h => by unfold sh at h; cases h
  | 0, .lst xs, h => by unfold sh at h; cases h
  | n + 1, .tup xs, h => by
    unfold sh at h
    obtain ⟨h1, h2⟩ := shL_lay h
    exact ⟨by simpa [toPy, PyData.canLay0] using h1, by simpa [toPy, PyData.depth] using h2⟩
  | n + 1, .lst xs, h => by
    unfold sh at h
    obtain ⟨h1, h2⟩ := shL_lay h
    exact ⟨by simpa [toPy, PyData.canLay0] using h1, by simpa [toPy, PyData.depth] using h2⟩
  | n, .dK _, h => by cases n <;> (unfold sh at h; cases h)
  | n, .dT _, h => by cases n <;> (unfold sh at h; cases h)
  | n, .pool, h => by cases n <;> (unfold sh at h; cases h)
  | n, .ty _, h => by cases n <;> (unfold sh at h; cases h)
theorem shL_lay : ∀ {n : Nat} {ds : List D}, shL n ds = true → PyData.canLayAll0 (toPyL ds) = true ∧ PyData.depthAll (toPyL ds) ≤ n
  | n, [], _ => ⟨by simp [toPyL, PyData.canLayAll0], by simp [toPyL, PyData.depthAll]⟩
  | n, d :: ds, h => by
    unfold shL at h
    rw [Bool.and_eq_true] at h
    obtain ⟨h1, h2⟩ := sh_lay h.1
    obtain ⟨h3, h4⟩ := shL_lay h.2
    exact ⟨by simp [toPyL, PyData.canLayAll0, h1, h3], by simp only [toPyL, PyData.depthAll]; omega⟩
end
theorem sh_shaped {n : Nat} {d : D} (h : sh n d = true) (hn : n ≤ 64 := by decide) : SeqAt.shaped (toPy d) = true := by
  obtain ⟨h1, h2⟩ := sh_lay h
  unfold SeqAt.shaped
  rw [Bool.and_eq_true]
  exact ⟨h1, decide_eq_true (by omega)⟩
mutual
theorem fz_dp (sub : ∀ a o, B a = some o → H a = some o) : ∀ {n : Nat} {v : V} {d : D}, Fz K pl B v d → sh n d = true → Dp K H v (toPy d)
  | _, _, _, .non, _ => by unfold toPy; exact .non
  | _, _, _, .bl b, _ => by unfold toPy; exact .bl b
  | _, _, _, .int i, _ => by unfold toPy; exact .int i
  | _, _, _, .str w, _ => by unfold toPy; exact .str _
  | 0, _, _, .tup _ _, h => by unfold sh at h; cases h
  | 0, _, _, .lst _ _, h => by unfold sh at h; cases h
  | n + 1, _, _, .tup ha fl, h => by unfold toPy; unfold sh at h; exact .tup ((tupAt_mono sub ha).sq) (fz_dpL sub fl h)
  | n + 1, _, _, .lst ha fl, h => by unfold toPy; unfold sh at h; exact .lst (.inl (.inl (sub _ _ ha))) (fz_dpL sub fl h)
  | n, _, _, .dK _ _, h => by cases n <;> (unfold sh at h; cases h)
  | n, _, _, .dT _ _, h => by cases n <;> (unfold sh at h; cases h)
  | n, _, _, .pool _, h => by cases n <;> (unfold sh at h; cases h)
  | n, _, _, .ty _, h => by cases n <;> (unfold sh at h; cases h)
theorem fz_dpL (sub : ∀ a o, B a = some o → H a = some o) : ∀ {n : Nat} {v : List V} {d : List D}, FzL K pl B v d → shL n d = true → DpAll K H v (toPyL d)
  | _, _, _, .nil, _ => by unfold toPyL; exact .nil
  | n, _, _, .cons f r, h => by
    unfold shL at h
    rw [Bool.and_eq_true] at h
    unfold toPyL
    exact .cons (fz_dp sub f h.1) (fz_dpL sub r h.2)
end
end
/-! ### the operators over data -/
section
variable {X : Cx} {K : PySem.W.Frag} {pl : Option (Addr × Addr)}
def rAddU (K : PySem.W.Frag) : R2 := fun x y H Q => (rI0 fun i j => .int (i + j)) x y H Q ∨ (fun x y H Q => (fun x y H Q => ∃ i j, x = .str i ∧ y = .str j ∧ i.length + j.length ≤ sizeLine ∧ Q (.str (i ++ j)) H : R2) x y H Q ∨ (fun x y H Q => rCat x y H Q ∨ rCatA K x y H Q : R2) x y H Q : R2) x y H Q
theorem op_addU : OpR X (binaryOp .Add) (rAddU X.K) := OpR.or op_add (OpR.or op_add_str (OpR.or op_cat op_catA))
def fAdd : D → D → (D → Prop) → Prop
  | .int i, .int j, R => R (.int (i + j))
  | .str a, .str b, R => a.length + b.length ≤ sizeLine ∧ R (.str (a ++ b))
  | .lst a, .lst b, R => immL a = true ∧ immL b = true ∧ a.length + b.length ≤ sizeLine ∧ R (.lst (a ++ b))
  | .tup a, .tup b, R => immL a = true ∧ immL b = true ∧ a.length + b.length ≤ sizeLine ∧ R (.tup (a ++ b))
  | _, _, _ => False
theorem poolNot {H : Hp} {p : Addr} (P : PoolOk pl H) (n : H p = none) : ¬ Hid pl p := fun ⟨⟨a, aL⟩, e, h⟩ => by
  obtain ⟨_, _, _, _, _, _, q1, q2, _⟩ := P a aL e
  rcases h with h | h
  · rw [show p = a from h, q1] at n; cases n
  · rw [show p = aL from h, q2] at n; cases n
theorem tsubN {H H' : Hp} (e : Xt pl H H') : TSub (vis pl H') (nw pl H H') := fun a xs h => by
  obtain ⟨n, q⟩ := of_vis h
  cases r : H a with
  | none => exact nw_new n r q rfl
  | some u =>
    have z := e.sub a u n r
    rw [q] at z; cases z
    exact nw_tup n r
theorem immL_app : ∀ {a b : List D}, immL a = true → immL b = true → immL (a ++ b) = true
  | [], _, _, h => h
  | d :: r, b, h, h2 => by
    simp only [immL, Bool.and_eq_true, List.cons_append] at h ⊢
    exact ⟨h.1, immL_app h.2 h2⟩
/-- a new tuple, list of immutable items -/
theorem newT {H : Hp} {p : Addr} {vs : List V} {ds : List D} (P : PoolOk pl H) (n : H p = none) (f : FzL K pl (vis pl H) vs ds) (h : immL ds = true) : Fz K pl (nw pl H (upd H p (.tup vs))) (.ref p) (.tup ds) :=
  .tup (.inl (nw_new (poolNot P n) n upd_same rfl)) ((f.mono (vis_mono (.new n))).imm (tsubN (.new n)) h)
theorem newL {H : Hp} {p : Addr} {vs : List V} {ds : List D} (P : PoolOk pl H) (n : H p = none) (f : FzL K pl (vis pl H) vs ds) (h : immL ds = true) : Fz K pl (nw pl H (upd H p (.lst vs))) (.ref p) (.lst ds) :=
  .lst (nw_new (poolNot P n) n upd_same rfl) ((f.mono (vis_mono (.new n))).imm (tsubN (.new n)) h)
theorem sq_vis {H : Hp} {a : Addr} {xs : List V} {c : Bool} (h : TupAt K (vis pl H) a xs c) : SqT K H a xs := (tupAt_mono vis_sub h).sq
theorem imm_tup {a : List D} (h : immL a = true) : imm (.tup a) = true := by unfold imm; exact h
theorem od_add : OpD K pl (rAddU K) fAdd := fun x y d e H Q R P fx fy h q => by
  cases d with
  | int i => cases e with
    | int j => cases fx; cases fy; exact .inl ⟨i, j, rfl, rfl, q _ _ H h (Xt.refl _ _) (.int _)⟩
    | _ => exact h.elim
  | str a => cases e with
    | str b =>
      cases fx; cases fy
      refine .inr (.inl ⟨_, _, rfl, rfl, by simpa [Str.length] using h.1, ?_⟩)
      have e1 : (⟨a.toArray⟩ : Str) ++ ⟨b.toArray⟩ = ⟨(a ++ b).toArray⟩ := by
        show Str.mk (a.toArray ++ b.toArray) = _
        simp
      rw [e1]
      exact q _ _ H h.2 (Xt.refl _ _) (.str _)
    | _ => exact h.elim
  | lst a => cases e with
    | lst b => cases fx with
      | lst ha f1 => cases fy with
        | lst hb f2 => exact .inr (.inr (.inl ⟨_, _, _, _, rfl, rfl, (of_vis ha).2, (of_vis hb).2, by rw [f1.len, f2.len]; exact h.2.2.1, fun p n => q _ _ _ h.2.2.2 (.new n) (newL P n (f1.append f2) (immL_app h.1 h.2.1))⟩))
    | _ => exact h.elim
  | tup a => cases e with
    | tup b => cases fx with
      | @tup a1 v1 _ ha f1 => cases fy with
        | @tup b1 v2 _ hb f2 =>
          refine .inr (.inr (.inr ⟨_, _, _, _, rfl, rfl, sq_vis ha, sq_vis hb, by rw [f1.len, f2.len]; exact h.2.2.1, fun e => ?_, fun _ e => ?_, fun _ _ p n => q _ _ _ h.2.2.2 (.new n) (newT P n (f1.append f2) (immL_app h.1 h.2.1))⟩))
          · have e0 : a = [] := List.eq_nil_of_length_eq_zero (by rw [← f1.len, e]; rfl)
            have hr := h.2.2.2
            rw [e0, List.nil_append] at hr
            exact q _ _ H hr (Xt.refl _ _) ((Fz.tup hb f2).imm (tsubN (Xt.refl _ _)) (imm_tup h.2.1))
          · have e0 : b = [] := List.eq_nil_of_length_eq_zero (by rw [← f2.len, e]; rfl)
            have hr := h.2.2.2
            rw [e0, List.append_nil] at hr
            exact q _ _ H hr (Xt.refl _ _) ((Fz.tup ha f1).imm (tsubN (Xt.refl _ _)) (imm_tup h.1))
    | _ => exact h.elim
  | _ => cases e <;> exact h.elim
def fII (C : Int → Int → Prop) (g : Int → Int → Int) : D → D → (D → Prop) → Prop
  | .int i, .int j, R => C i j ∧ R (.int (g i j))
  | _, _, _ => False
def fI0 (g : Int → Int → Int) : D → D → (D → Prop) → Prop
  | .int i, .int j, R => R (.int (g i j))
  | _, _, _ => False
def fB0 (g : Int → Int → Bool) : D → D → (D → Prop) → Prop
  | .int i, .int j, R => R (.bl (g i j))
  | _, _, _ => False
theorem od_II {C : Int → Int → Prop} {g : Int → Int → Int} : OpD K pl (rI C fun i j => .int (g i j)) (fII C g) := fun x y d e H Q R P fx fy h q => by
  cases d with
  | int i => cases e with
    | int j => cases fx; cases fy; exact ⟨i, j, rfl, rfl, h.1, q _ _ H h.2 (Xt.refl _ _) (.int _)⟩
    | _ => exact h.elim
  | _ => cases e <;> exact h.elim
theorem od_I0 {g : Int → Int → Int} : OpD K pl (rI0 fun i j => .int (g i j)) (fI0 g) := fun x y d e H Q R P fx fy h q => by
  cases d with
  | int i => cases e with
    | int j => cases fx; cases fy; exact ⟨i, j, rfl, rfl, q _ _ H h (Xt.refl _ _) (.int _)⟩
    | _ => exact h.elim
  | _ => cases e <;> exact h.elim
theorem od_B0 {g : Int → Int → Bool} : OpD K pl (rI0 fun i j => .bl (g i j)) (fB0 g) := fun x y d e H Q R P fx fy h q => by
  cases d with
  | int i => cases e with
    | int j => cases fx; cases fy; exact ⟨i, j, rfl, rfl, q _ _ H h (Xt.refl _ _) (.bl _)⟩
    | _ => exact h.elim
  | _ => cases e <;> exact h.elim
def fNeg : D → (D → Prop) → Prop
  | .int i, R => R (.int (-i))
  | _, _ => False
theorem ud_neg : UnD K pl (rU fun i => .int (-i)) fNeg := fun x d H Q R P fx h q => by
  cases d with
  | int i => cases fx; exact ⟨i, rfl, q _ _ H h (Xt.refl _ _) (.int _)⟩
  | _ => exact h.elim
/-! == and != -/
def sc : D → D → Bool
  | .non, .non => true | .non, .int _ => true | .int _, .non => true | .non, .bl _ => true | .bl _, .non => true | .non, .str _ => true | .str _, .non => true
  | .int _, .int _ => true | .bl _, .bl _ => true | .str _, .str _ => true
  | .int _, .str _ => true | .str _, .int _ => true | .bl _, .str _ => true | .str _, .bl _ => true
  | _, _ => false
theorem str_eqv (a b : List Nat) : ((⟨a.toArray⟩ : Str) == ⟨b.toArray⟩) = decide (a = b) := by
  by_cases e : a = b
  · subst e; simp
  · rw [decide_eq_false e]
    refine beq_eq_false_iff_ne.mpr fun z => e ?_
    injection z with z
    simpa using congrArg Array.toList z
theorem sc_eq {B : Hp} {x y : V} {d e : D} (fx : Fz K pl B x d) (fy : Fz K pl B y e) (h : sc d e = true) : scal x y = true ∧ decide (x = y) = eqb d e := by
  cases d <;> cases e <;> first | (cases h; done) | (cases fx; cases fy; refine ⟨rfl, ?_⟩; unfold eqb; simp only [toPy, PyData.eqv]; first | rfl | (simp; done) | skip)
  · rename_i a b
    cases a <;> cases b <;> rfl
  · rename_i a b
    by_cases e : a = b
    · subst e; simp
    · rw [decide_eq_false (fun z => e (V.int.inj z)), beq_eq_false_iff_ne.mpr e]
  · rename_i a b
    rw [str_eqv]
    by_cases e : a = b
    · subst e; simp
    · rw [decide_eq_false e, decide_eq_false (fun z => e ?_)]
      injection z with z
      injection z with z
      simpa using congrArg Array.toList z
def rEqU (K : PySem.W.Frag) : R2 := fun x y H Q => rEq x y H Q ∨ rEqD K x y H Q
def rNeU (K : PySem.W.Frag) : R2 := fun x y H Q => rNe x y H Q ∨ rNeD K x y H Q
theorem op_eqU (hu : X.A.units + 64 < cLine) : OpR X (compareOp .Eq) (rEqU X.K) := OpR.or op_eq (op_eqD hu)
theorem op_neU (hu : X.A.units + 64 < cLine) : OpR X (compareOp .NotEq) (rNeU X.K) := OpR.or op_ne (op_neD hu)
def fEq : D → D → (D → Prop) → Prop := fun d e R => (sc d e || (sh 60 d && sh 60 e)) = true ∧ R (.bl (eqb d e))
def fNe : D → D → (D → Prop) → Prop := fun d e R => (sc d e || (sh 60 d && sh 60 e)) = true ∧ R (.bl (!eqb d e))
theorem od_eq : OpD K pl (rEqU K) fEq := fun x y d e H Q R P fx fy h q => by
  have r := q _ (.bl (eqb d e)) H h.2 (Xt.refl _ _) (.bl _)
  cases s : sc d e with
  | true =>
    obtain ⟨h1, h2⟩ := sc_eq fx fy s
    exact .inl ⟨h1, by rw [h2]; exact r⟩
  | false =>
    have h1 := h.1
    rw [s, Bool.false_or, Bool.and_eq_true] at h1
    exact .inr ⟨_, _, fz_dp vis_sub fx h1.1, fz_dp vis_sub fy h1.2, sh_shaped h1.1, sh_shaped h1.2, r⟩
theorem od_ne : OpD K pl (rNeU K) fNe := fun x y d e H Q R P fx fy h q => by
  have r := q _ (.bl (!eqb d e)) H h.2 (Xt.refl _ _) (.bl _)
  cases s : sc d e with
  | true =>
    obtain ⟨h1, h2⟩ := sc_eq fx fy s
    exact .inl ⟨h1, by rw [h2]; exact r⟩
  | false =>
    have h1 := h.1
    rw [s, Bool.false_or, Bool.and_eq_true] at h1
    exact .inr ⟨_, _, fz_dp vis_sub fx h1.1, fz_dp vis_sub fy h1.2, sh_shaped h1.1, sh_shaped h1.2, r⟩
/-! in, is, len, list, tuple .. -/
def rInU (K : PySem.W.Frag) : R2 := fun x y H Q => rInD K x y H Q ∨ (fun x y H Q => rIn K false x y H Q ∨ (fun x y H Q => ∃ (c : Nat) (z : Str), x = .str ⟨#[c]⟩ ∧ y = .str z ∧ Q (.bl (decide (c ∈ z.cps.toList))) H : R2) x y H Q : R2) x y H Q
def rNotInU (K : PySem.W.Frag) : R2 := fun x y H Q => rNotInD K x y H Q ∨ (fun x y H Q => rIn K true x y H Q ∨ (fun x y H Q => ∃ (c : Nat) (z : Str), x = .str ⟨#[c]⟩ ∧ y = .str z ∧ Q (.bl (!decide (c ∈ z.cps.toList))) H : R2) x y H Q : R2) x y H Q
theorem op_inU (hu : X.A.units + 65 < cLine) : OpR X (compareOp .In) (rInU X.K) := OpR.or (op_inD hu) (OpR.or op_in_seq op_in_sign)
theorem op_notInU (hu : X.A.units + 65 < cLine) : OpR X (compareOp .NotIn) (rNotInU X.K) := OpR.or (op_notInD hu) (OpR.or op_notIn_seq op_notIn_sign)
/-- flat data -/
def fl : D → Bool
  | .non => true | .bl _ => true | .int _ => true | .str _ => true
  | _ => false
/-- is x among them (each asked on its own as the library does: z == x) -/
def mem (x : D) (ds : List D) : Bool := ds.any fun z => eqb z x
def fInB (x : D) (c : D) (R : Bool → Prop) : Prop := match c with
  | .lst ds => (sh 60 x = true ∧ shL 60 ds = true) ∧ R (mem x ds)
  | .tup ds => (fl x = true ∧ ds.all fl = true) ∧ R (mem x ds)
  | .str w => match x with
    | .str [c] => R (decide (c ∈ w))
    | _ => False
  | _ => False
def fIn : D → D → (D → Prop) → Prop := fun x c R => fInB x c fun b => R (.bl b)
def fNotIn : D → D → (D → Prop) → Prop := fun x c R => fInB x c fun b => R (.bl (!b))
theorem toPyL_map : ∀ ds : List D, toPyL ds = ds.map toPy
  | [] => rfl
  | d :: ds => by unfold toPyL; rw [toPyL_map ds]; rfl
theorem any_py (x : D) (ds : List D) : ((toPyL ds).any fun z => PyData.eqv z (toPy x)) = mem x ds := by
  rw [toPyL_map, List.any_map]
  rfl
theorem fl_flat {B : Hp} {v : V} {d : D} (f : Fz K pl B v d) (h : fl d = true) : flatV v = true := by
  cases d <;> first | (cases h; done) | (cases f; rfl)
theorem fl_flats {B : Hp} : ∀ {vs : List V} {ds : List D}, FzL K pl B vs ds → ds.all fl = true → vs.all flatV = true
  | _, _, .nil, _ => rfl
  | _, _, .cons f r, h => by
    rw [List.all_cons, Bool.and_eq_true] at h ⊢
    exact ⟨fl_flat f h.1, fl_flats r h.2⟩
theorem eqV_eqb {B : Hp} {v u : V} {d e : D} (f : Fz K pl B v d) (g : Fz K pl B u e) (h : fl d = true) (h' : fl e = true) : eqV v u = eqb d e := by
  cases d <;> first | (cases h; done) | (cases e <;> first | (cases h'; done) | (cases f; cases g; unfold eqb; simp only [toPy, PyData.eqv, eqV]))
theorem inV_mem {B : Hp} {v : V} {x : D} (f : Fz K pl B v x) (h : fl x = true) : ∀ {vs : List V} {ds : List D}, FzL K pl B vs ds → ds.all fl = true → inV v vs = mem x ds
  | _, _, .nil, _ => rfl
  | _, _, .cons g r, q => by
    rw [List.all_cons, Bool.and_eq_true] at q
    have ih := inV_mem f h r q.2
    unfold inV mem at ih ⊢
    rw [List.any_cons, List.any_cons, eqV_eqb g f q.1 h, ih]
theorem fIn_ok {H : Hp} {Q : Bool → Prop} {x y : V} {d c : D} (fx : Fz K pl (vis pl H) x d) (fy : Fz K pl (vis pl H) y c) (h : fInB d c Q) :
    (∃ d' ds, Dp K H x d' ∧ Dp K H y (.list ds) ∧ SeqAt.shaped d' = true ∧ SeqAt.shaped (.list ds) = true ∧ Q (ds.any fun z => PyData.eqv z d')) ∨
    (∃ p xs, y = .ref p ∧ (SqL K H p xs ∨ SqT K H p xs) ∧ flatV x = true ∧ xs.all flatV = true ∧ Q (inV x xs)) ∨ ∃ (c : Nat) (z : Str), x = .str ⟨#[c]⟩ ∧ y = .str z ∧ Q (decide (c ∈ z.cps.toList)) := by
  cases c with
  | lst ds =>
    obtain ⟨⟨h1, h2⟩, h3⟩ := h
    have h4 : sh 61 (.lst ds) = true := by unfold sh; exact h2
    have dp := fz_dp vis_sub fy h4
    unfold toPy at dp
    have sp := sh_shaped h4
    unfold toPy at sp
    exact .inl ⟨_, _, fz_dp vis_sub fx h1, dp, sh_shaped h1, sp, by rw [any_py]; exact h3⟩
  | tup ds =>
    obtain ⟨⟨h1, h2⟩, h3⟩ := h
    cases fy with
    | @tup a vs _ ha fl => exact .inr (.inl ⟨a, vs, rfl, .inr (sq_vis ha), fl_flat fx h1, fl_flats fl h2, by rw [inV_mem fx h1 fl h2]; exact h3⟩)
  | str w =>
    cases fy
    match d, fx, h with
    | .str [c], .str _, h => exact .inr (.inr ⟨c, _, rfl, rfl, by have h' : Q (decide (c ∈ w)) := h; simpa using h'⟩)
  | _ => exact h.elim
theorem od_in : OpD K pl (rInU K) fIn := fun x y d e H Q R P fx fy h q => by
  rcases fIn_ok (Q := fun b => Q (.bl b) H) fx fy (by
    cases e <;> first
      | exact ⟨h.1, q _ _ H h.2 (Xt.refl _ _) (.bl _)⟩
      | exact h.elim
      | (rename_i w
         match d, h with
         | .str [c], h => exact q _ _ H h (Xt.refl _ _) (.bl _))) with g | g | g
  · exact .inl g
  · exact .inr (.inl g)
  · exact .inr (.inr g)
theorem od_notIn : OpD K pl (rNotInU K) fNotIn := fun x y d e H Q R P fx fy h q => by
  rcases fIn_ok (Q := fun b => Q (.bl (!b)) H) fx fy (by
    cases e <;> first
      | exact ⟨h.1, q _ _ H h.2 (Xt.refl _ _) (.bl _)⟩
      | exact h.elim
      | (rename_i w
         match d, h with
         | .str [c], h => exact q _ _ H h (Xt.refl _ _) (.bl _))) with g | g | g
  · exact .inl g
  · exact .inr (.inl g)
  · exact .inr (.inr g)
def isNon : D → Bool
  | .non => true
  | _ => false
def fIsN : D → D → (D → Prop) → Prop := fun d e R => match e with
  | .non => R (.bl (isNon d))
  | _ => False
def fNotN : D → D → (D → Prop) → Prop := fun d e R => match e with
  | .non => R (.bl (!isNon d))
  | _ => False
theorem isNon_ok {B : Hp} {v : V} {d : D} (f : Fz K pl B v d) : decide (v = .non) = isNon d := by
  cases d <;> (cases f; rfl)
theorem od_isN : OpD K pl (fun x y H Q => y = .non ∧ Q (.bl (decide (x = .non))) H) fIsN := fun x y d e H Q R P fx fy h q => by
  cases e with
  | non => cases fy; exact ⟨rfl, by rw [isNon_ok fx]; exact q _ _ H h (Xt.refl _ _) (.bl _)⟩
  | _ => exact h.elim
theorem od_notN : OpD K pl (fun x y H Q => y = .non ∧ Q (.bl (!decide (x = .non))) H) fNotN := fun x y d e H Q R P fx fy h q => by
  cases e with
  | non => cases fy; exact ⟨rfl, by rw [isNon_ok fx]; exact q _ _ H h (Xt.refl _ _) (.bl _)⟩
  | _ => exact h.elim
/-! built-in functions -/
def fLen : List D → (D → Prop) → Prop
  | [.str w], R => w.length ≤ sizeLine ∧ R (.int w.length)
  | [.lst ds], R => R (.int ds.length)
  | [.tup ds], R => R (.int ds.length)
  | _, _ => False
theorem cd_len : CaD K pl (fun xs H Q => ∃ x n, xs = [x] ∧ LenV K x H n ∧ Q (.int n) H) fLen := fun xs ds H Q R P f h q => by
  match ds, f, h with
  | [.str w], .cons (.str _) .nil, h => exact ⟨_, w.length, rfl, ⟨by simpa [Str.length] using h.1, by simp [Str.length]⟩, q _ _ H h.2 (Xt.refl _ _) (.int _)⟩
  | [.lst ds], .cons (.lst ha fl) .nil, h => exact ⟨_, ds.length, rfl, .inl ⟨_, .inl (.inl (of_vis ha).2), fl.len.symm⟩, q _ _ H h (Xt.refl _ _) (.int _)⟩
  | [.tup ds], .cons (.tup ha fl) .nil, h => exact ⟨_, ds.length, rfl, .inr ⟨_, sq_vis ha, fl.len.symm⟩, q _ _ H h (Xt.refl _ _) (.int _)⟩
def fList : List D → (D → Prop) → Prop
  | [.lst ds], R => immL ds = true ∧ R (.lst ds)
  | [.tup ds], R => immL ds = true ∧ R (.lst ds)
  | _, _ => False
theorem cd_list : CaD K pl (fun xs H Q => ∃ p ys, xs = [.ref p] ∧ (SqL K H p ys ∨ SqT K H p ys) ∧ ∀ l, H l = none → Q (.ref l) (upd H l (.lst ys))) fList := fun xs ds H Q R P f h q => by
  match ds, f, h with
  | [.lst ds], .cons (.lst ha fl) .nil, h => exact ⟨_, _, rfl, .inl (.inl (.inl (of_vis ha).2)), fun l n => q _ _ _ h.2 (.new n) (newL P n fl h.1)⟩
  | [.tup ds], .cons (.tup ha fl) .nil, h => exact ⟨_, _, rfl, .inr (sq_vis ha), fun l n => q _ _ _ h.2 (.new n) (newL P n fl h.1)⟩
def fTuple : List D → (D → Prop) → Prop
  | [.lst ds], R => immL ds = true ∧ R (.tup ds)
  | [.tup ds], R => immL ds = true ∧ R (.tup ds)
  | _, _ => False
theorem cd_tuple : CaD K pl (fun xs H Q => ∃ p ys, xs = [.ref p] ∧ ((SqL K H p ys ∧ ∀ l, H l = none → Q (.ref l) (upd H l (.tup ys))) ∨ (SqT K H p ys ∧ Q (.ref p) H))) fTuple := fun xs ds H Q R P f h q => by
  match ds, f, h with
  | [.lst ds], .cons (.lst ha fl) .nil, h => exact ⟨_, _, rfl, .inl ⟨.inl (.inl (of_vis ha).2), fun l n => q _ _ _ h.2 (.new n) (newT P n fl h.1)⟩⟩
  | [.tup ds], .cons (.tup ha fl) .nil, h => exact ⟨_, _, rfl, .inr ⟨sq_vis ha, q _ _ H h.2 (Xt.refl _ _) ((Fz.tup ha fl).imm (tsubN (Xt.refl _ _)) (imm_tup h.1))⟩⟩
def fInt : List D → (D → Prop) → Prop
  | [.int i], R => R (.int i)
  | _, _ => False
theorem cd_int : CaD K pl (fun xs H Q => (∃ i, xs = [.int i] ∧ Q (.int i) H) ∨ ∃ k, xs = [.bl k] ∧ Q (.int (if k then 1 else 0)) H) fInt := fun xs ds H Q R P f h q => by
  match ds, f, h with
  | [.int i], .cons (.int _) .nil, h => exact .inl ⟨i, rfl, q _ _ H h (Xt.refl _ _) (.int _)⟩
def fMin2 : List D → (D → Prop) → Prop
  | [.int i, .int j], R => R (.int (if j < i then j else i))
  | _, _ => False
theorem cd_min2 : CaD K pl (fun xs H Q => ∃ i j, xs = [.int i, .int j] ∧ Q (.int (if j < i then j else i)) H) fMin2 := fun xs ds H Q R P f h q => by
  match ds, f, h with
  | [.int i, .int j], .cons (.int _) (.cons (.int _) .nil), h => exact ⟨i, j, rfl, q _ _ H h (Xt.refl _ _) (.int _)⟩
def intsOf : List D → Option (List Int)
  | [] => some []
  | .int i :: r => match intsOf r with
    | some l => some (i :: l)
    | none => none
  | _ => none
def blsOf : List D → Option (List Bool)
  | [] => some []
  | .bl i :: r => match blsOf r with
    | some l => some (i :: l)
    | none => none
  | _ => none
def strsOf : List D → Option (List (List Nat))
  | [] => some []
  | .str i :: r => match strsOf r with
    | some l => some (i :: l)
    | none => none
  | _ => none
theorem intsOf_ok {B : Hp} : ∀ {vs : List V} {ds : List D} {ns : List Int}, FzL K pl B vs ds → intsOf ds = some ns → vs = ns.map V.int
  | _, _, ns, .nil, h => by cases h; rfl
  | _, d :: r, ns, .cons f g, h => by
    cases d with
    | int i =>
      unfold intsOf at h
      cases q : intsOf r with
      | none => rw [q] at h; cases h
      | some l => rw [q] at h; cases h; cases f; rw [intsOf_ok g q]; rfl
    | _ => cases h
theorem blsOf_ok {B : Hp} : ∀ {vs : List V} {ds : List D} {ns : List Bool}, FzL K pl B vs ds → blsOf ds = some ns → vs = ns.map V.bl
  | _, _, ns, .nil, h => by cases h; rfl
  | _, d :: r, ns, .cons f g, h => by
    cases d with
    | bl i =>
      unfold blsOf at h
      cases q : blsOf r with
      | none => rw [q] at h; cases h
      | some l => rw [q] at h; cases h; cases f; rw [blsOf_ok g q]; rfl
    | _ => cases h
theorem strsOf_ok {B : Hp} : ∀ {vs : List V} {ds : List D} {ns : List (List Nat)}, FzL K pl B vs ds → strsOf ds = some ns → vs = (ns.map fun w => (⟨w.toArray⟩ : Str)).map V.str
  | _, _, ns, .nil, h => by cases h; rfl
  | _, d :: r, ns, .cons f g, h => by
    cases d with
    | str i =>
      unfold strsOf at h
      cases q : strsOf r with
      | none => rw [q] at h; cases h
      | some l => rw [q] at h; cases h; cases f; rw [strsOf_ok g q]; rfl
    | _ => cases h
def fSum : List D → (D → Prop) → Prop
  | [.lst ds], R => match intsOf ds with
    | some ns => R (.int ns.sum)
    | none => False
  | _, _ => False
def fAny : List D → (D → Prop) → Prop
  | [.lst ds], R => match blsOf ds with
    | some bs => R (.bl (bs.any id))
    | none => False
  | _, _ => False
def fAll : List D → (D → Prop) → Prop
  | [.lst ds], R => match blsOf ds with
    | some bs => R (.bl (bs.all id))
    | none => False
  | _, _ => False
theorem cd_sum : CaD K pl (rSum K) fSum := fun xs ds H Q R P f h q => by
  match ds, f, h with
  | [.lst ds], .cons (.lst (a := a) ha fl) .nil, h =>
    unfold fSum at h
    cases e : intsOf ds with
    | none => simp only [e] at h
    | some ns => simp only [e] at h; exact ⟨a, ns, rfl, .inl (.inl (by rw [← intsOf_ok fl e]; exact (of_vis ha).2)), q _ _ H h (Xt.refl _ _) (.int _)⟩
theorem cd_any : CaD K pl (rAny K) fAny := fun xs ds H Q R P f h q => by
  match ds, f, h with
  | [.lst ds], .cons (.lst (a := a) ha fl) .nil, h =>
    unfold fAny at h
    cases e : blsOf ds with
    | none => simp only [e] at h
    | some ns => simp only [e] at h; exact ⟨a, ns, rfl, .inl (.inl (by rw [← blsOf_ok fl e]; exact (of_vis ha).2)), q _ _ H h (Xt.refl _ _) (.bl _)⟩
theorem cd_all : CaD K pl (rAll K) fAll := fun xs ds H Q R P f h q => by
  match ds, f, h with
  | [.lst ds], .cons (.lst (a := a) ha fl) .nil, h =>
    unfold fAll at h
    cases e : blsOf ds with
    | none => simp only [e] at h
    | some ns => simp only [e] at h; exact ⟨a, ns, rfl, .inl (.inl (by rw [← blsOf_ok fl e]; exact (of_vis ha).2)), q _ _ H h (Xt.refl _ _) (.bl _)⟩
end
end PD
set_option Elab.async false
set_option linter.all false
set_option maxRecDepth 100000
set_option maxHeartbeats 2000000
namespace PD
open PySem PySem.Spec PyProof.Rows L2
/-! ### sets of tuples of keys: the table -/
abbrev hK (P : Program) (w : World) (k : List Key) : Int := tupleKeyHash (mixKind P w) k
abbrev KT (P : Program) (w : World) (h : Heap) (k : List Key) (a : Addr) : Prop := IsTupleKey (mixKind P w) h k a
def AtomV (v : Value) : Prop := (∃ i t, v = Value.int i t) ∨ ∃ x t, v = Value.str x t
section
variable {P : Program} {w : World} {A : Around} {E : Value → Shared → Prop} {s : Shared}
theorem atom_of {k : Key} {v : Value} (h : (mixKind P w).is k v = true) : AtomV v := by
  cases k with
  | inl i => obtain ⟨t, e⟩ := Value.isInt_shape (show Value.isInt i v = true from h); exact .inl ⟨i, t, e⟩
  | inr x => cases v <;> first | exact .inr ⟨_, _, rfl⟩ | exact nomatch (show false = true from h)
theorem atoms_of {k : List Key} {vs : List Value} (h : ItemsAre (mixKind P w) k vs) : ∀ v ∈ vs, AtomV v := by
  induction h with
  | nil => intro v hv; cases hv
  | cons h1 _ ih => exact fun v hv => (List.mem_cons.mp hv).elim (fun e => e ▸ atom_of h1) (ih v)
theorem class_atom (n : Nat) {v : Value} (h : AtomV v) : ofAClassStatement n v = pure false := by
  rcases h with ⟨i, t, rfl⟩ | ⟨i, t, rfl⟩ <;> cases n <;> rfl
theorem hash_atom (n : Nat) {v : Value} (h : AtomV v) : ∃ b, hashByValue n v = pure b := by
  rcases h with ⟨i, t, rfl⟩ | ⟨i, t, rfl⟩ <;> cases n <;> exact ⟨_, rfl⟩
theorem ofAClass_k {k : List Key} {b : Addr} {Q : Bool → Shared → Prop} (hk : KT P w s.heap k b) (h : Q false s) : wpAny (model P w) A (ofAClassStatement 8 (.ref b)) Q E s := by
  have hT := hk.typeIs
  obtain ⟨o, items, n, oh, _, od, hi⟩ := hk
  unfold ofAClassStatement
  refine wpAny_bind (wpAny_typeOf hT ?_)
  dsimp only
  have e : (("tuple" : String) == "tuple") = true := by decide
  simp only [e, if_true, Bool.not_true, Bool.false_eq_true, if_false]
  try refine wpAny_bind (wpAny_pure ?_)
  try simp only [Bool.not_true, Bool.false_eq_true, if_false]
  show wpAny _ _ (seqItems? (.ref b) >>= _) _ _ s
  refine wpAny_bind (wpAny_seqItems oh od ?_)
  dsimp only
  refine wpAny_bind ?_
  show wpAny _ _ (forIn items _ _) _ _ s
  rw [← Array.forIn_toList]
  refine wpAny_forIn_list _ (fun rest r s' => r.1 = none ∧ s' = s ∧ ∀ v ∈ rest, AtomV v) _ ?_ ?_ _ _ ⟨rfl, rfl, atoms_of hi⟩
  · rintro v rest r s' ⟨hr, rfl, hall⟩
    rw [class_atom _ (hall v List.mem_cons_self)]
    refine wpAny_bind (wpAny_pure ?_)
    simp only [Bool.false_eq_true, if_false]
    exact wpAny_pure ⟨rfl, rfl, fun u hu' => hall u (List.mem_cons_of_mem _ hu')⟩
  · rintro ⟨r1, r2⟩ s' ⟨hr, rfl, _⟩
    simp only at hr
    subst hr
    exact wpAny_pure h
theorem hashBy_k {k : List Key} {b : Addr} {Q : Bool → Shared → Prop} (hk : KT P w s.heap k b) (h : ∀ c, Q c s) : wpAny (model P w) A (hashByValue 8 (.ref b)) Q E s := by
  have hT := hk.typeIs
  obtain ⟨o, items, n, oh, _, od, hi⟩ := hk
  unfold hashByValue
  refine wpAny_bind (wpAny_specialOf hT F.slot_tuple_hash.lookup ?_)
  show wpAny _ _ (seqItems? (.ref b) >>= _) _ _ s
  refine wpAny_bind (wpAny_seqItems oh od ?_)
  refine wpAny_bind ?_
  show wpAny _ _ (forIn items _ _) _ _ s
  rw [← Array.forIn_toList]
  refine wpAny_forIn_list _ (fun rest r s' => s' = s ∧ ∀ v ∈ rest, AtomV v) _ ?_ ?_ _ _ ⟨rfl, atoms_of hi⟩
  · rintro v rest r s' ⟨rfl, hall⟩
    obtain ⟨c, ec⟩ := hash_atom 7 (hall v List.mem_cons_self)
    rw [ec]
    refine wpAny_bind (wpAny_pure ?_)
    cases c
    · simp only [Bool.not_false, if_true]
      exact wpAny_pure (wpAny_pure (h false))
    · simp only [Bool.not_true, Bool.false_eq_true, if_false]
      exact wpAny_pure ⟨rfl, fun u hu' => hall u (List.mem_cons_of_mem _ hu')⟩
  · rintro ⟨r1, r2⟩ s' ⟨rfl, _⟩
    cases r1 with
    | none => exact wpAny_pure (h true)
    | some c => exact wpAny_pure (h c)
/-- a search among tuples shows nothing -/
theorem seen_k {k : List Key} {b : Addr} {Q : Bool → Shared → Prop} (hk : KT P w s.heap k b) {ys : List Value} (hy : ∀ y ∈ ys, ∃ k' c, y = Value.ref c ∧ KT P w s.heap k' c) (h : Q false s) :
    wpAny (model P w) A (searchCouldBeSeen (.ref b) ys) Q E s := by
  unfold searchCouldBeSeen
  refine wpAny_bind ?_
  refine wpAny_forIn_list _ (fun rest r s' => r.1 = none ∧ s' = s ∧ ∀ y ∈ rest, ∃ k' c, y = Value.ref c ∧ KT P w s.heap k' c) _ ?_ ?_ _ _ ⟨rfl, rfl, hy⟩
  · rintro v rest r s' ⟨hr, rfl, hall⟩
    obtain ⟨k', c, rfl, hc⟩ := hall v List.mem_cons_self
    have rest' : ∀ y ∈ rest, ∃ k' c, y = Value.ref c ∧ KT P w s'.heap k' c := fun u hu' => hall u (List.mem_cons_of_mem _ hu')
    dsimp only
    by_cases hv : (b == c || (carriedByValue (.ref b) && carriedByValue (.ref c))) = true
    · refine wp_if_pos hv ?_
      exact wpAny_pure ⟨rfl, rfl, rest'⟩
    · refine wp_if_neg hv ?_
      refine wpAny_bind (wpAny_eqIsQuiet_tuple hk ?_)
      simp only [Bool.not_true, Bool.false_eq_true, if_false]
      refine wpAny_bind (wpAny_eqIsQuiet_tuple hc ?_)
      simp only [Bool.not_true, Bool.false_eq_true, if_false]
      refine wpAny_bind (ofAClass_k hk ?_)
      simp only [Bool.false_eq_true, if_false]
      refine wpAny_bind (ofAClass_k hc ?_)
      simp only [Bool.false_eq_true, if_false]
      exact wpAny_pure ⟨rfl, rfl, rest'⟩
  · rintro ⟨r1, r2⟩ s' ⟨hr, rfl, _⟩
    simp only at hr
    subst hr
    exact wpAny_pure h
def rowsK (P : Program) (w : World) (L : List (Addr × List Key)) : List (Int × Value) := L.map fun p => (hK P w p.2, Value.ref p.1)
structure KSet (P : Program) (w : World) (h : Heap) (a : Addr) (L : List (Addr × List Key)) (es : Array (Int × Value)) (ep : Nat) (t : SetTable) : Prop where
  ob : ∃ o, h.get? a = some o ∧ o.ExactSet ∧ o.data = .set es ep t
  rows : es.toList = rowsK P w L
  tab : TabOk t (L.map fun p => hK P w p.2)
  nd : (L.map (·.2)).Nodup
  tup : ∀ p ∈ L, KT P w h p.2 p.1
  led : w.params.followText "set-order" = true ∨ t.led = true
  room : L.length * 5 < t.mask * 3
  few : L.length < 64
variable {a : Addr} {L : List (Addr × List Key)} {es : Array (Int × Value)} {ep : Nat} {t : SetTable}
theorem KSet.size (Z : KSet P w s.heap a L es ep t) : es.size = L.length := by
  have h := congrArg List.length Z.rows
  unfold rowsK at h
  rw [Array.length_toList, List.length_map] at h
  exact h
theorem KSet.fits (Z : KSet P w s.heap a L es ep t) : t.fits es.size = true := by
  have h1 := Z.tab.sz
  rw [List.length_map] at h1
  have h2 := Z.size
  have h3 := Z.room
  unfold SetTable.fits SetTable.fill
  rw [Z.tab.dm, Bool.and_eq_true, beq_iff_eq, decide_eq_true_eq]
  show t.place.size = es.size ∧ t.place.size + 0 ≤ t.mask
  omega
theorem KSet.entry (Z : KSet P w s.heap a L es ep t) {i : Nat} {p : Addr × List Key} (h : L[i]? = some p) : es[i]? = some (hK P w p.2, Value.ref p.1) := by
  rw [← Array.getElem?_toList, Z.rows]
  unfold rowsK
  rw [List.getElem?_map, h] <;> rfl
theorem KSet.gw (Z : KSet P w s.heap a L es ep t) : ¬ t.gaveWay = true := by
  unfold SetTable.gaveWay
  rw [mask_odd Z.tab.mok]
  decide
/-- THE SEARCH: from the c-th step of the way on -/
theorem seek_from (Z : KSet P w s.heap a L es ep t) {x : Addr} {k : List Key} (gx : KT P w s.heap k x) (gu : A.units < cLine) {K : Nat} (kf : K < 10 * SetTable.turns t.mask)
    (kh : way t.mask (hK P w k) K ∉ t.place.toList) (kb : ∀ c, c < K → way t.mask (hK P w k) c ∈ t.place.toList) {Q : SetFound → Shared → Prop}
    (gi : k ∈ L.map (·.2) → Q (.there none) s) (gf : k ∉ L.map (·.2) → Q (.free (way t.mask (hK P w k) K) false) s) :
    ∀ (f c : Nat) (stand : Option SetTable.Probe), stand.getD (t.probeStart (hK P w k)) = nth t.mask (runAt t.mask (SetTable.bits (hK P w k) % (t.mask + 1)) (SetTable.bits (hK P w k))) c → c ≤ K → K - c < f →
      (∀ (i : Nat) p, L[i]? = some p → p.2 = k → ∃ c', c ≤ c' ∧ c' < K ∧ t.place.toList[i]? = some (way t.mask (hK P w k) c')) →
      wpAny (model P w) A (setSearchFrom a (.ref x) (hK P w k) true f stand) Q E s
  | 0, c, stand, _, _, hfu, _ => absurd hfu (Nat.not_lt_zero _)
  | f + 1, c, stand, hs0, hc, hfu, hrr => by
    obtain ⟨o, oh, oe, od⟩ := Z.ob
    rw [setSearchFrom_succ]
    refine wpAny_bind (wpAny_setState_of oh od Z.fits ?_)
    dsimp only
    refine wp_if_neg Z.gw ?_
    try refine wpAny_bind (wpAny_pure ?_)
    have hnd : (nth t.mask (runAt t.mask (SetTable.bits (hK P w k) % (t.mask + 1)) (SetTable.bits (hK P w k))) c).dummy = none := by
      have key : ∀ (n : Nat) (p : SetTable.Probe), p.dummy = none → (nth t.mask p n).dummy = none := by
        intro n
        induction n with
        | zero => intro p h; exact h
        | succ n ih =>
          intro p h
          refine ih (adv t.mask p) ?_
          unfold adv
          split <;> exact h
      exact key c _ rfl
    have sh : ∀ q, nth t.mask (nth t.mask (runAt t.mask (SetTable.bits (hK P w k) % (t.mask + 1)) (SetTable.bits (hK P w k))) c) q = nth t.mask (runAt t.mask (SetTable.bits (hK P w k) % (t.mask + 1)) (SetTable.bits (hK P w k))) (c + q) := fun q => (nth_add t.mask c _ q).symm
    have e1 : ∀ q, (nth t.mask (nth t.mask (runAt t.mask (SetTable.bits (hK P w k) % (t.mask + 1)) (SetTable.bits (hK P w k))) c) q).j = way t.mask (hK P w k) (c + q) := fun q => congrArg SetTable.Probe.j (sh q)
    have spec := go_spec t Z.tab.ris Z.tab.dm (fun i => (es[i]?.map (·.1)).getD 0) (hK P w k) (10 * SetTable.turns t.mask) (K - c) _ hnd (by omega)
      (fun q hq => by rw [e1]; exact kb (c + q) (by omega)) (by rw [e1, show c + (K - c) = K by omega]; exact kh)
    have hashAt : ∀ (i : Nat) p, L[i]? = some p → (fun i => (es[i]?.map (·.1)).getD 0) i = hK P w p.2 := fun i p hpq => by
      show (es[i]?.map (·.1)).getD 0 = _
      rw [Z.entry hpq] <;> rfl
    rcases spec with ⟨q, i, hq, hi, hh, hnn, hpb⟩ | ⟨hnn, hpb⟩
    · -- a candidate
      have hpr' : t.probe (fun i => (es[i]?.map (·.1)).getD 0) (hK P w k) (stand.getD (t.probeStart (hK P w k))) = some (.candidate (way t.mask (hK P w k) (c + q)) i (nth t.mask (runAt t.mask (SetTable.bits (hK P w k) % (t.mask + 1)) (SetTable.bits (hK P w k))) (c + (q + 1)))) := by
        rw [hs0, ← e1, ← sh]
        exact hpb
      rw [hpr']
      dsimp only
      rw [e1] at hi
      -- the entry
      have hil : i < L.length := by
        have h1 : i < t.place.toList.length := (List.getElem?_eq_some_iff.mp hi).1
        have h2 := Z.tab.sz
        rw [List.length_map] at h2
        rw [Array.length_toList] at h1
        omega
      have hpq : L[i]? = some L[i] := List.getElem?_eq_getElem hil
      generalize hpe : L[i] = p at hpq
      have hmem : p ∈ L := List.mem_of_getElem? hpq
      have hpt := Z.tup p hmem
      have rest : wpAny (model P w) A (searchRest a (.ref x) (hK P w k) true f es t (way t.mask (hK P w k) (c + q)) i (nth t.mask (runAt t.mask (SetTable.bits (hK P w k) % (t.mask + 1)) (SetTable.bits (hK P w k))) (c + (q + 1)))) Q E s := by
        unfold searchRest
        rw [Z.entry hpq]
        dsimp only
        refine wpAny_bind (wpAny_holding (wpAny_eqBool_tuple gu hpt gx ?_))
        refine wpAny_bind (wpAny_setState_of oh od Z.fits ?_)
        dsimp only
        by_cases hkk : p.2 = k
        · refine wp_if_pos (by simp [hkk]) ?_
          refine wpAny_pure (gi ?_)
          exact List.mem_map.mpr ⟨p, hmem, hkk⟩
        · refine wp_if_neg (by simp [hkk]) ?_
          try refine wpAny_bind (wpAny_pure ?_)
          rw [sameMem]
          dsimp only
          have lz : t.slot (way t.mask (hK P w k) (c + q)) = .live i := slot_live Z.tab.ris hi
          simp only [if_true, lz, Z.entry hpq]
          refine wpAny_bind (wpAny_isSame_ref_self (wpAny_bind (wpAny_pure ?_)))
          simp only [if_true]
          refine wp_if_neg (by simp [hkk]) ?_
          refine seek_from Z gx gu kf kh kb gi gf f (c + (q + 1)) _ rfl (by omega) (by omega) fun i0 p0 h0 hk0 => ?_
          obtain ⟨c', a1, a2, a3⟩ := hrr i0 p0 h0 hk0
          refine ⟨c', ?_, a2, a3⟩
          -- it isn't passed
          rcases Nat.lt_or_ge c' (c + q) with z | z
          · exfalso
            refine hnn (c' - c) i0 (by omega) (by rw [e1, show c + (c' - c) = c' by omega]; exact a3) ?_
            exact (hashAt i0 p0 h0).trans (congrArg (hK P w) hk0)
          · rcases Nat.lt_or_ge (c + q) c' with y | y
            · omega
            · exfalso
              have ec : c' = c + q := Nat.le_antisymm y z
              rw [ec] at a3
              have s0 := slot_live Z.tab.ris a3
              rw [lz] at s0
              injection s0 with s0
              rw [← s0, hpq] at h0
              exact hkk ((congrArg Prod.snd (Option.some.inj h0)).trans hk0)
      by_cases hl : t.led = true
      · refine wp_if_neg (by simp [hl]) ?_
        try refine wpAny_bind (wpAny_pure ?_)
        exact rest
      · refine wp_if_pos (by simp [hl]) ?_
        refine wpAny_bind (seen_k gx (fun y hy => ?_) ?_)
        · obtain ⟨e, he, ee⟩ := List.mem_map.mp hy
          have he1 : e ∈ es ∧ e.1 = hK P w k := by simpa using he
          have he2 : e ∈ es.toList := by simpa using he1.1
          rw [Z.rows] at he2
          obtain ⟨p2, hp2, e2⟩ := List.mem_map.mp he2
          refine ⟨p2.2, p2.1, ?_, Z.tup p2 hp2⟩
          rw [← ee, ← e2]
        · refine wp_if_neg (by decide) ?_
          try refine wpAny_bind (wpAny_pure ?_)
          exact rest
    · -- the empty slot
      have hpr' : t.probe (fun i => (es[i]?.map (·.1)).getD 0) (hK P w k) (stand.getD (t.probeStart (hK P w k))) = some (.empty (way t.mask (hK P w k) K) none) := by
        have e2 : way t.mask (hK P w k) K = (nth t.mask (nth t.mask (runAt t.mask (SetTable.bits (hK P w k) % (t.mask + 1)) (SetTable.bits (hK P w k))) c) (K - c)).j := by
          rw [e1, show c + (K - c) = K by omega]
        rw [hs0, e2]
        exact hpb
      rw [hpr']
      dsimp only
      refine wpAny_pure (gf fun hmm => ?_)
      obtain ⟨p0, h0, hk0⟩ := List.mem_map.mp hmm
      obtain ⟨i0, hi0, e0⟩ := List.getElem_of_mem h0
      have h00 : L[i0]? = some p0 := by rw [List.getElem?_eq_getElem hi0, e0]
      obtain ⟨c', a1, a2, a3⟩ := hrr i0 p0 h00 hk0
      refine hnn (c' - c) i0 (by omega) (by rw [e1, show c + (c' - c) = c' by omega]; exact a3) ?_
      exact (hashAt i0 p0 h00).trans (congrArg (hK P w) hk0)
/-- the search as adding asks for it -/
theorem seek_at (Z : KSet P w s.heap a L es ep t) {x : Addr} {k : List Key} (gx : KT P w s.heap k x) (gu : A.units < cLine) {Q : SetFound → Shared → Prop}
    (gi : k ∈ L.map (·.2) → Q (.there none) s)
    (gf : ∀ K, k ∉ L.map (·.2) → way t.mask (hK P w k) K ∉ t.place.toList → (∀ c, c < K → way t.mask (hK P w k) c ∈ t.place.toList) → Q (.free (way t.mask (hK P w k) K) false) s) :
    wpAny (model P w) A (setSearch a (.ref x) (hK P w k) true) Q E s := by
  have hrm := Z.room
  obtain ⟨K, kf, kh, kb⟩ := Z.tab.first (by rw [List.length_map]; omega) (hK P w k)
  have hbig : K < 100000 := by
    have : 10 * SetTable.turns t.mask ≤ 1420 := by
      unfold SetTable.turns
      rcases Z.tab.mok with e | e | e <;> omega
    omega
  unfold setSearch
  refine seek_from Z gx gu kf kh kb gi (fun hn => gf K hn kh kb) 100000 0 none rfl (Nat.zero_le _) (by omega) fun i p hpq hk => ?_
  have hi : (L.map fun p => hK P w p.2)[i]? = some (hK P w k) := by rw [List.getElem?_map, hpq, ← hk] <;> rfl
  have hil : i < t.place.toList.length := by
    have h1 : i < L.length := (List.getElem?_eq_some_iff.mp hpq).1
    have h2 := Z.tab.sz
    rw [List.length_map] at h2
    rw [Array.length_toList]
    omega
  have hj := List.getElem?_eq_getElem hil
  obtain ⟨c, hc, e⟩ := Z.tab.before kh hi hj
  exact ⟨c, Nat.zero_le _, hc, by rw [hj, e]⟩
/-- a tuple isn't the set -/
theorem tabOk_of {t1 t2 : SetTable} {hs : List Int} (T : TabOk t1 hs) (f1 : t2.place = t1.place) (f2 : t2.dummies = t1.dummies) (f3 : t2.mask = t1.mask) : TabOk t2 hs :=
  ⟨by rw [f1]; exact T.ris, by rw [f2]; exact T.dm, by rw [f1]; exact T.sz, by rw [f3]; exact T.mok, by rw [f1, f3]; exact T.bd, by rw [f1, f3]; exact T.reach⟩
theorem kT_same {h h' : Heap} {k : List Key} {a b : Addr} {o : Obj} {es : Array (Int × Value)} {ep : Nat} {t : SetTable} (hb : KT P w h k b) (oh : h.get? a = some o) (od : o.data = .set es ep t) (hss : Heap.SameBut a h h') : KT P w h' k b := by
  obtain ⟨o', items, n, ho', hc, hd', hi⟩ := hb
  have hne : b ≠ a := by
    rintro rfl
    obtain rfl : o' = o := Option.some.inj (ho'.symm.trans oh)
    rw [od] at hd'
    exact nomatch hd'
  exact ⟨o', items, n, (hss.2 b hne).trans ho', hc, hd', hi⟩
theorem rowsK_put (L : List (Addr × List Key)) (p : Nat) (x : Addr) (k : List Key) : rowsK P w (L.take p ++ (x, k) :: L.drop p) = (rowsK P w L).take p ++ (hK P w k, Value.ref x) :: (rowsK P w L).drop p := by
  unfold rowsK
  rw [List.map_append, List.map_cons, List.map_take, List.map_drop]
theorem rowsK_order (L : List (Addr × List Key)) (es : Array (Int × Value)) (order : Array Nat) (hr : es.toList = rowsK P w L) (hpq : order.toList.Perm (List.range L.length)) :
    ∃ L2, (order.filterMap (es[·]?)).toList = rowsK P w L2 ∧ L2.Perm L ∧ (L2.map fun p => hK P w p.2) = order.toList.map fun i => (es.map (·.1)).getD i 0 := by
  have hsq : es.size = L.length := by
    have h := congrArg List.length hr
    unfold rowsK at h
    rw [Array.length_toList, List.length_map] at h
    exact h
  have ent : ∀ i (h : i < L.length), es[i]? = some (hK P w (L[i]).2, Value.ref (L[i]).1) := fun i h => by
    rw [← Array.getElem?_toList, hr]
    unfold rowsK
    rw [List.getElem?_map, List.getElem?_eq_getElem h] <;> rfl
  have key : ∀ l : List Nat, (∀ i ∈ l, i < L.length) → ∃ L2 : List (Addr × List Key), l.filterMap (fun i => es[i]?) = rowsK P w L2 ∧ L2 = l.filterMap (fun i => L[i]?) ∧ (L2.map fun p => hK P w p.2) = l.map fun i => (es.map (·.1)).getD i 0 := by
    intro l
    induction l with
    | nil => intro _; exact ⟨[], rfl, rfl, rfl⟩
    | cons i l ih =>
      intro hl
      have hi := hl i List.mem_cons_self
      obtain ⟨L2, e1, e2, e3⟩ := ih fun j hj => hl j (List.mem_cons_of_mem _ hj)
      refine ⟨L[i] :: L2, ?_, ?_, ?_⟩
      · rw [List.filterMap_cons_some (ent i hi), e1] <;> rfl
      · rw [List.filterMap_cons_some (List.getElem?_eq_getElem hi), e2]
      · rw [List.map_cons, List.map_cons, e3]
        have hi2 : i < (es.map (·.1)).size := by rw [Array.size_map, hsq]; exact hi
        have e4 : (es.map (·.1)).getD i 0 = hK P w (L[i]).2 := by
          have e5 : (es.map (·.1))[i]? = some (hK P w (L[i]).2) := by rw [Array.getElem?_map, ent i hi] <;> rfl
          simp [Array.getD_eq_getD_getElem?, e5]
        rw [e4]
  obtain ⟨L2, e1, e2, e3⟩ := key order.toList fun i hi => List.mem_range.mp (hpq.mem_iff.mp hi)
  refine ⟨L2, by first | (rw [Array.toList_filterMap]; exact e1) | simpa using e1, ?_, e3⟩
  have h1 : L2.Perm ((List.range L.length).filterMap fun i => L[i]?) := by
    rw [e2]
    exact hpq.filterMap _
  have h2 : (List.range L.length).filterMap (fun i => L[i]?) = L := by
    have key2 : ∀ n, n ≤ L.length → (List.range n).filterMap (fun i => L[i]?) = L.take n := by
      intro n
      induction n with
      | zero => intro _; rfl
      | succ n ih =>
        intro hn
        have hlt : n < L.length := hn
        rw [List.range_succ, List.filterMap_append, ih (Nat.le_of_lt hlt), List.take_succ, List.getElem?_eq_getElem hlt]
        rw [List.filterMap_cons_some (List.getElem?_eq_getElem hlt)] <;> rfl
    rw [key2 L.length (Nat.le_refl _), List.take_length]
  rw [h2] at h1
  exact h1
/-- the table laid anew, larger -/
theorem relay_k {o : Obj} (oh : s.heap.get? a = some o) (oe : o.ExactSet) (od : o.data = .set es ep t) (hrows : es.toList = rowsK P w L) (hsq : t.place.size = es.size) (hdm : t.dummies = #[]) (hfl : es.size ≤ t.mask)
    (nd : (L.map (·.2)).Nodup) (tup : ∀ p ∈ L, KT P w s.heap p.2 p.1) (ld : w.params.followText "set-order" = true ∨ t.led = true) (few : L.length < 64) {wanted M : Nat}
    (hw : SetTable.sizeAbove wanted - 1 = M) (hM : MaskOk M) (hw2 : SetTable.sizeAbove wanted ≤ 128) (hn : L.length * 5 < M * 3) {Q : Unit → Shared → Prop}
    (hQ : ∀ h' L' es' ep' t', Heap.SameBut a s.heap h' → KSet P w h' a L' es' ep' t' → L'.Perm L → Q () { s with heap := h' }) : wpAny (model P w) A (setRelay a wanted) Q E s := by
  have lz : es.size = L.length := by
    have h := congrArg List.length hrows
    unfold rowsK at h
    rw [Array.length_toList, List.length_map] at h
    exact h
  have hfits : t.fits es.size = true := by
    unfold SetTable.fits SetTable.fill
    rw [hdm, Bool.and_eq_true, beq_iff_eq, decide_eq_true_eq]
    show t.place.size = es.size ∧ t.place.size + 0 ≤ t.mask
    omega
  obtain ⟨t', order, e, hpq, T, em, el, ep', ed⟩ := relaid_ok t (hs := es.map (·.1)) (wanted := wanted) hw hM (by rw [Array.size_map, lz]; omega)
  rw [Array.size_map, lz] at hpq
  obtain ⟨L2, r1, r2, r3⟩ := rowsK_order L es order hrows hpq
  rw [← r3] at T
  have hs2 : (order.filterMap (es[·]?)).size = es.size := by
    have h := congrArg List.length r1
    unfold rowsK at h
    rw [Array.length_toList, List.length_map, r2.length_eq] at h
    rw [h, lz]
  rw [setRelay_eq]
  refine wpAny_bind (wpAny_setState_of oh od hfits ?_)
  dsimp only
  refine wp_if_neg (by rw [sizeLine_eq]; omega) ?_
  try refine wpAny_bind (wpAny_pure ?_)
  rw [e]
  dsimp only
  refine wpAny_bind ?_
  refine wp_if_neg (by rw [hs2]; simp) ?_
  try refine wpAny_bind (wpAny_pure ?_)
  refine wpAny_pure ?_
  dsimp only
  refine wpAny_storeSet_of oh od ?_ (by rw [hs2, lz, sizeLine_eq]; omega)
  have sb : Heap.SameBut a s.heap (s.heap.update a (Obj.putSet (order.filterMap (es[·]?)) t')) := Heap.SameBut.update ..
  refine hQ _ L2 (order.filterMap (es[·]?)) (ep + 1) t' sb ?_ r2
  refine ⟨⟨_, store_at oh od, ⟨oe.1, oe.2.1, oe.2.2⟩, rfl⟩, r1, T, ?_, fun p hpm => kT_same (tup p (r2.mem_iff.mp hpm)) oh od sb, by rw [el]; exact ld, ?_, by rw [r2.length_eq]; exact few⟩
  · exact (r2.map (·.2)).nodup_iff.mpr nd
  · rw [r2.length_eq, em]
    exact hn
/-- ADDING -/
theorem add_k (Z : KSet P w s.heap a L es ep t) {x : Addr} {k : List Key} (gx : KT P w s.heap k x) (gu : A.units < cLine) (hfew : L.length + 1 < 64) {Q : Bool → Shared → Prop}
    (hQ : ∀ b h' L' es' ep' t', Heap.SameBut a s.heap h' → KSet P w h' a L' es' ep' t' → (k ∈ L.map (·.2) → L' = L) → (k ∉ L.map (·.2) → L'.Perm ((x, k) :: L)) → Q b { s with heap := h' }) :
    wpAny (model P w) A (setAddHashed a (.ref x) (hK P w k)) Q E s := by
  obtain ⟨o, oh, oe, od⟩ := Z.ob
  have lz := Z.size
  have hrm := Z.room
  unfold setAddHashed
  refine wpAny_holding ?_
  rw [show (100000 : Nat) = 99999 + 1 from rfl, setAddHashedIn_succ]
  refine wpAny_bind (wpAny_setState_of oh od Z.fits ?_)
  dsimp only
  refine wp_if_neg (by simp [byScan, Value.scannable]) ?_
  try refine wpAny_bind (wpAny_pure ?_)
  refine wpAny_bind (seek_at Z gx gu (fun hmm => ?_) fun K hmm kh hb => ?_)
  · dsimp only
    exact wpAny_pure (hQ false s.heap L es ep t (Heap.SameBut.refl a s.heap) Z (fun _ => rfl) fun z => absurd hmm z)
  · dsimp only
    refine wpAny_bind (wpAny_setState_of oh od Z.fits ?_)
    dsimp only
    obtain ⟨q1, q2, q3, q4, q5, q6, q7, q8, q9⟩ := Z.tab.put kh hb
    generalize hpt : t.put (way t.mask (hK P w k) K) = pt at q1 q3 q4 q5 q6 q7 q8 q9 ⊢
    obtain ⟨t1, p⟩ := pt
    dsimp only at q1 q3 q4 q5 q6 q7 q8 q9 ⊢
    subst q1
    suffices main : ∀ c : Bool, wpAny (model P w) A (do
        storeSet a (SetTable.insertAt es (SetTable.below t.place (way t.mask (hK P w k) K)) (hK P w k, Value.ref x)) (if c = true then t1 else { t1 with plain := false })
        if (!false && (if c = true then t1 else { t1 with plain := false }).tooFull) = true then do
          setRelay a (SetTable.grown (es.size + 1))
          pure true
        else pure true) Q E s by
      by_cases hp1 : t1.plain = true
      · exact wp_if_pos hp1 (wpAny_bind (hashBy_k gx main))
      · exact wp_if_neg hp1 (wpAny_bind (wpAny_pure (main true)))
    intro c
    have q10 : ∃ t2 : SetTable, (if c = true then t1 else { t1 with plain := false }) = t2 ∧ t2.place = t1.place ∧ t2.dummies = t1.dummies ∧ t2.mask = t1.mask ∧ t2.led = t1.led := by
      cases c <;> exact ⟨_, rfl, rfl, rfl, rfl, rfl⟩
    obtain ⟨t2, et2, f1, f2, f3, f4⟩ := q10
    simp only [et2]
    replace q3 := tabOk_of q3 f1 f2 f3
    replace q4 := f3.trans q4
    replace q5 := f4.trans q5
    replace q9 : t2.fill = _ := (show t2.place.size + t2.dummies.size = t1.place.size + t1.dummies.size by rw [f1, f2]).trans q9
    clear et2 f1 f2 f3 f4 q6 q7 q8
    have gi : (SetTable.insertAt es (SetTable.below t.place (way t.mask (hK P w k) K)) (hK P w k, Value.ref x)).toList = rowsK P w (L.take (SetTable.below t.place (way t.mask (hK P w k) K)) ++ (x, k) :: L.drop (SetTable.below t.place (way t.mask (hK P w k) K))) := by
      rw [SetTable.toList_insertAt, rowsK_put, Z.rows]
    generalize hpp : SetTable.below t.place (way t.mask (hK P w k) K) = p at q2 q3 gi ⊢
    have pm := put_perm L p (x, k)
    have hlen : (L.take p ++ (x, k) :: L.drop p).length = L.length + 1 := pm.length_eq
    have hhs : (L.take p ++ (x, k) :: L.drop p).map (fun p => hK P w p.2) = (L.map fun p => hK P w p.2).take p ++ hK P w k :: (L.map fun p => hK P w p.2).drop p := by
      rw [List.map_append, List.map_cons, List.map_take, List.map_drop]
    rw [← hhs] at q3
    have nd1 : ((L.take p ++ (x, k) :: L.drop p).map (·.2)).Nodup := by
      refine (pm.map (·.2)).nodup_iff.mpr ?_
      rw [List.map_cons]
      exact List.nodup_cons.mpr ⟨hmm, Z.nd⟩
    have hes : (SetTable.insertAt es p (hK P w k, Value.ref x)).size = L.length + 1 := by
      have h := congrArg List.length gi
      unfold rowsK at h
      rw [Array.length_toList, List.length_map, hlen] at h
      exact h
    generalize SetTable.insertAt es p (hK P w k, Value.ref x) = es1 at gi hes ⊢
    generalize L.take p ++ (x, k) :: L.drop p = L1 at pm hlen q3 nd1 gi
    refine wpAny_bind (wpAny_storeSet_of oh od ?_ (by rw [hes, sizeLine_eq]; omega))
    have sb : Heap.SameBut a s.heap (s.heap.update a (Obj.putSet es1 t2)) := Heap.SameBut.update ..
    have ho1 := store_at (es' := es1) (t' := t2) oh od
    generalize s.heap.update a (Obj.putSet es1 t2) = h1 at sb ho1 ⊢
    have tup1 : ∀ p ∈ L1, KT P w h1 p.2 p.1 := fun p hpq => by
      rcases List.mem_cons.mp (pm.mem_iff.mp hpq) with e | hpq
      · rw [e]; exact kT_same gx oh od sb
      · exact kT_same (Z.tup p hpq) oh od sb
    have ld1 : w.params.followText "set-order" = true ∨ t2.led = true := by rw [q5]; exact Z.led
    by_cases hfu : t2.tooFull = true
    · first
        | (refine wpAny_bind ?_; refine wp_if_pos (by simp [hfu]) ?_)
        | (refine wp_if_pos (by simp [hfu]) ?_; refine wpAny_bind ?_)
      have hfull : (L.length + 1) * 5 ≥ t2.mask * 3 := by
        have h := hfu
        unfold SetTable.tooFull at h
        rw [decide_eq_true_eq, q9, List.length_map] at h
        exact h
      rw [lz]
      have hsz1 : t2.place.size = es1.size := by
        have h := q3.sz
        rw [List.length_map, hlen] at h
        rw [h, hes]
      have cases2 : (t.mask = 7 ∧ L.length = 4) ∨ (t.mask = 31 ∧ L.length = 18) := by
        rcases Z.tab.mok with e | e | e
        · left; rw [q4, e] at hfull; rw [e] at hrm; exact ⟨e, by omega⟩
        · right; rw [q4, e] at hfull; rw [e] at hrm; exact ⟨e, by omega⟩
        · exfalso; rw [q4, e] at hfull; omega
      have go : ∀ M, SetTable.sizeAbove (SetTable.grown (L.length + 1)) - 1 = M → MaskOk M → SetTable.sizeAbove (SetTable.grown (L.length + 1)) ≤ 128 → (L.length + 1) * 5 < M * 3 →
          wpAny (model P w) A (setRelay a (SetTable.grown (L.length + 1))) (fun _ s' => wpAny (model P w) A (pure true) Q E s') E { s with heap := h1 } := fun M h1' h2' h3' h4' => by
        refine relay_k (s := { s with heap := h1 }) ho1 ⟨oe.1, oe.2.1, oe.2.2⟩ rfl gi hsz1 q3.dm (by rw [hes, q4]; rcases cases2 with ⟨e, e2⟩ | ⟨e, e2⟩ <;> omega) nd1 tup1 ld1 (by rw [hlen]; exact hfew) h1' h2' h3' (by rw [hlen]; exact h4') ?_
        intro h2 L2 es2 ep2 t3 sb2 R2 pm2
        refine wpAny_pure (hQ true h2 L2 es2 ep2 t3 (sb.trans sb2) R2 (fun z => absurd z hmm) fun _ => pm2.trans pm)
      rcases cases2 with ⟨_, e2⟩ | ⟨_, e2⟩
      · refine go 31 (by rw [e2, size_20]) (.inr (.inl rfl)) (by rw [e2, size_20]; decide) (by omega)
      · refine go 127 (by rw [e2, size_76]) (.inr (.inr rfl)) (by rw [e2, size_76]; decide) (by omega)
    · first
        | refine wp_if_neg (by simp [hfu]) ?_
        | (refine wpAny_bind ?_; refine wp_if_neg (by simp [hfu]) ?_; refine wpAny_pure ?_)
      refine wpAny_pure (hQ true h1 L1 es1 (ep + 1) t2 sb ⟨⟨_, ho1, ⟨oe.1, oe.2.1, oe.2.2⟩, rfl⟩, gi, q3, nd1, tup1, ld1, ?_, by rw [hlen]; exact hfew⟩ (fun z => absurd z hmm) fun _ => pm)
      have h := hfu
      unfold SetTable.tooFull at h
      rw [decide_eq_true_eq, q9, List.length_map] at h
      rw [hlen]
      omega
end
end PD
set_option Elab.async false
set_option linter.all false
set_option maxRecDepth 100000
set_option maxHeartbeats 2000000
namespace PD
open PySem PySem.Spec PyProof.Rows L2
/-! ### sets of whole numbers and texts: by scan -/
theorem perm_back {α β : Type} {f : α → β} {l m : List β} (p : l.Perm m) : ∀ L : List α, m = L.map f → ∃ L' : List α, L'.Perm L ∧ l = L'.map f := by
  induction p with
  | nil => exact fun L e => ⟨L, .refl _, e⟩
  | cons x p ih =>
    intro L e
    match L, e with
    | y :: L, e =>
      rw [List.map_cons, List.cons.injEq] at e
      obtain ⟨L', a, b⟩ := ih L e.2
      exact ⟨y :: L', a.cons y, by rw [List.map_cons, ← b, e.1]⟩
  | swap x y l =>
    intro L e
    match L, e with
    | [], e => cases e
    | [u], e => simp at e
    | u :: v :: L, e =>
      simp only [List.map_cons, List.cons.injEq] at e
      exact ⟨v :: u :: L, List.Perm.swap _ _ _, by simp only [List.map_cons]; rw [e.1, e.2.1, e.2.2]⟩
  | trans _ _ ih1 ih2 =>
    intro L e
    obtain ⟨L1, a1, b1⟩ := ih2 L e
    obtain ⟨L2, a2, b2⟩ := ih1 L1 b1
    exact ⟨L2, a2.trans a1, b2⟩
def rowK (P : Program) (w : World) (p : Value × Key) : Int × Value := ((mixKind P w).hash p.2, p.1)
structure KScan (P : Program) (w : World) (h : Heap) (a : Addr) (L : List (Value × Key)) (es : Array (Int × Value)) (ep : Nat) (t : SetTable) : Prop where
  ob : ∃ o, h.get? a = some o ∧ o.ExactSet ∧ o.data = .set es ep t
  rows : es.toList = L.map (rowK P w)
  is : ∀ p ∈ L, (mixKind P w).is p.2 p.1 = true
  nd : (L.map (·.2)).Nodup
  few : es.size < scanBound
  fit : t.fits es.size = true
  ris : Ris t.place.toList
  led : w.params.followText "set-order" = true ∨ t.led = true
section
variable {P : Program} {w : World} {A : Around} {E : Value → Shared → Prop} {s : Shared} {a : Addr} {L : List (Value × Key)} {es : Array (Int × Value)} {ep : Nat} {t : SetTable}
theorem key_scanV {k : Key} {v : Value} (h : (mixKind P w).is k v = true) : v.scannable = true := by
  rcases atom_of h with ⟨i, t, rfl⟩ | ⟨i, t, rfl⟩ <;> rfl
theorem KScan.elems (Z : KScan P w s.heap a L es ep t) : ElemsOf (mixKind P w) es.toList := fun e he => by
  rw [Z.rows] at he
  obtain ⟨p, hp, rfl⟩ := List.mem_map.mp he
  exact ⟨⟨p.2, Z.is p hp, rfl⟩, key_scanV (Z.is p hp)⟩
theorem KScan.put {es1 : Array (Int × Value)} {ep1 : Nat} {t1 : SetTable} {h1 : Heap} {L1 : List (Value × Key)} {o : Obj} (nd : (L1.map (·.2)).Nodup) (is : ∀ p ∈ L1, (mixKind P w).is p.2 p.1 = true) (pm : es1.toList.Perm (L1.map (rowK P w))) (few : es1.size < scanBound)
    (ho : h1.get? a = some o) (hx : o.ExactSet) (hd : o.data = .set es1 ep1 t1) (hf : t1.fits es1.size = true) (hr : Ris t1.place.toList) (hl : w.params.followText "set-order" = true ∨ t1.led = true) : ∃ L2, L2.Perm L1 ∧ KScan P w h1 a L2 es1 ep1 t1 := by
  obtain ⟨L2, p2, e2⟩ := perm_back pm L1 rfl
  exact ⟨L2, p2, ⟨o, ho, hx, hd⟩, e2, fun p hp => is p (p2.mem_iff.mp hp), (p2.map (·.2)).nodup_iff.mpr nd, few, hf, hr, hl⟩
theorem scan_tail {g : Bool → Sem Unit} (hg : ∀ (b : Bool) (s₁ : Shared) (Q' : Unit → Shared → Prop), Q' () s₁ → wpAny (model P w) A (g b) Q' E s₁)
    {o : Obj} (oh : s.heap.get? a = some o) (oe : o.ExactSet) (od : o.data = .set es ep t) {es1 : Array (Int × Value)} {t2 : SetTable} {L1 : List (Value × Key)} (nd1 : (L1.map (·.2)).Nodup) (is1 : ∀ p ∈ L1, (mixKind P w).is p.2 p.1 = true) (pm1 : es1.toList.Perm (L1.map (rowK P w)))
    (hb1 : es1.size < scanBound) (hf2 : t2.fits es1.size = true) (hr : Ris t2.place.toList) (hl : w.params.followText "set-order" = true ∨ t2.led = true) {wasDummy : Bool} {R : Option Bool → Shared → Prop}
    (hR : ∀ h' L2 es2 ep2 t2, Heap.SameBut a s.heap h' → L2.Perm L1 → KScan P w h' a L2 es2 ep2 t2 → R (some true) { s with heap := h' }) :
    wpAny (model P w) A (do
        storeSet a es1 t2
        if (!wasDummy && t2.tooFull) = true then do
            g (relayAll t2 es1 (SetTable.grown es1.size)).2.2
            storeSet a (relayAll t2 es1 (SetTable.grown es1.size)).1 (relayAll t2 es1 (SetTable.grown es1.size)).2.1
            pure (some true)
          else pure (some true)) R E s := by
  refine wpAny_bind (wpAny_storeSet_of oh od ?_ (fits_of_scanBound hb1))
  have oh1 := store_at (es' := es1) (t' := t2) oh od
  have sb1 := Heap.SameBut.update s.heap a (Obj.putSet es1 t2)
  split
  · have pm := relayAll_perm t2 es1 (SetTable.grown es1.size)
    have hf3 := relayAll_fits t2 es1 (SetTable.grown es1.size)
    have hr3 := relayAll_ris t2 es1 (SetTable.grown es1.size)
    have hl3 := relayAll_led t2 es1 (SetTable.grown es1.size)
    generalize relayAll t2 es1 (SetTable.grown es1.size) = Z at pm hf3 hr3 hl3 ⊢
    obtain ⟨es2, t3, gave⟩ := Z
    dsimp only at pm hf3 hr3 hl3 ⊢
    have zq : es2.size = es1.size := by rw [← Array.length_toList, pm.length_eq, Array.length_toList]
    have hb2 : es2.size < scanBound := by rw [zq]; exact hb1
    refine wpAny_bind (hg _ _ _ ?_)
    refine wpAny_bind (wpAny_storeSet_of oh1 rfl ?_ (fits_of_scanBound hb2))
    have oh2 := store_at (es' := es2) (t' := t3) oh1 rfl
    obtain ⟨L2, p2, Z2⟩ := KScan.put nd1 is1 (pm.trans pm1) hb2 oh2 ⟨oe.1, oe.2.1, oe.2.2⟩ rfl hf3 hr3 (hl.imp id fun z => by rw [hl3]; exact z)
    exact wpAny_pure (hR _ L2 es2 _ t3 (sb1.trans (Heap.SameBut.update _ a _)) p2 Z2)
  · obtain ⟨L2, p2, Z2⟩ := KScan.put nd1 is1 pm1 hb1 oh1 ⟨oe.1, oe.2.1, oe.2.2⟩ rfl hf2 hr hl
    exact wpAny_pure (hR _ L2 es1 _ t2 sb1 p2 Z2)
theorem KScan.size (Z : KScan P w s.heap a L es ep t) : es.size = L.length := by rw [← Array.length_toList, Z.rows, List.length_map]
theorem scan_add {k : Key} {v : Value} {Q : Bool → Shared → Prop} (Z : KScan P w s.heap a L es ep t) (hkey : (mixKind P w).is k v = true) (room : L.length + 1 < scanBound)
    (hQ : ∀ b h' L' es' ep' t', Heap.SameBut a s.heap h' → KScan P w h' a L' es' ep' t' → (k ∈ L.map (·.2) → L' = L) → (k ∉ L.map (·.2) → L'.Perm ((v, k) :: L)) → Q b { s with heap := h' }) :
    wpAny (model P w) A (setAddHashed a v ((mixKind P w).hash k)) Q E s := by
  obtain ⟨o, oh, oe, od⟩ := Z.ob
  have hsc : v.scannable = true := key_scanV hkey
  have hel := Z.elems
  have hn := Z.size
  unfold setAddHashed setAddHashedIn
  refine wpAny_holding (wpAny_bind (wpAny_setState_of oh od Z.fit ?_))
  dsimp only
  rw [byScan_of hsc Z.few hel]
  simp only [↓reduceIte]
  unfold setAddByScan
  refine wpAny_bind ?_
  refine wpAny_bind (wpAny_rule ?_)
  refine wpAny_bind (wpAny_setScan_of hkey oh od Z.fit hel ?_)
  have kin : k ∈ L.map (·.2) ↔ ∃ e ∈ es.toList, (mixKind P w).is k e.2 = true := by
    rw [Z.rows]
    constructor
    · intro h
      obtain ⟨p, hp, rfl⟩ := List.mem_map.mp h
      exact ⟨_, List.mem_map.mpr ⟨p, hp, rfl⟩, Z.is p hp⟩
    · rintro ⟨e, he, q⟩
      obtain ⟨p, hp, rfl⟩ := List.mem_map.mp he
      exact List.mem_map.mpr ⟨p, hp, (mixKind P w).inj _ _ _ (Z.is p hp) q⟩
  cases hfi : List.findIdx? (fun e => (mixKind P w).is k e.2) es.toList with
  | some j =>
    dsimp only
    obtain ⟨hj, pj, _⟩ := List.findIdx?_eq_some_iff_getElem.mp hfi
    have hk : k ∈ L.map (·.2) := kin.2 ⟨es.toList[j], List.getElem_mem hj, pj⟩
    exact wpAny_pure (wpAny_pure (hQ false s.heap L es ep t (Heap.SameBut.refl a s.heap) Z (fun _ => rfl) fun z => absurd hk z))
  | none =>
    dsimp only
    have hnk : k ∉ L.map (·.2) := fun z => by
      obtain ⟨e, he, q⟩ := kin.1 z
      have c := List.findIdx?_eq_none_iff.mp hfi e he
      rw [q] at c
      cases c
    have hgw : ∀ (b : Bool) {s₁ : Shared} {Q' : Unit → Shared → Prop}, Q' () s₁ → wpAny (model P w) A (match b with | true => rule "set.scan.the-table-gave-way" | false => pure ()) Q' E s₁ :=
      fun b s₁ Q' q => by cases b <;> first | exact wpAny_pure q | exact wpAny_rule q
    have pm := layNew_perm t es ((mixKind P w).hash k) v
    have hf1 := layNew_fits t es ((mixKind P w).hash k) v
    have hr1 := layNew_ris t es ((mixKind P w).hash k) v Z.ris
    have hl1 := layNew_led t es ((mixKind P w).hash k) v
    generalize layNew t es ((mixKind P w).hash k) v = Y at pm hf1 hr1 hl1 ⊢
    obtain ⟨es1, t1, wasDummy, gave⟩ := Y
    dsimp only at pm hf1 hr1 hl1 ⊢
    rw [Array.toList_push] at pm
    have pc : es1.toList.Perm (((v, k) :: L).map (rowK P w)) := by
      rw [List.map_cons, ← Z.rows]
      exact pm.trans (List.perm_append_singleton _ _)
    have is1 : ∀ p ∈ (v, k) :: L, (mixKind P w).is p.2 p.1 = true := fun p hp => (List.mem_cons.mp hp).elim (fun e => by rw [e]; exact hkey) (Z.is p)
    have nd1 : (((v, k) :: L).map (·.2)).Nodup := by
      rw [List.map_cons]
      exact List.nodup_cons.mpr ⟨hnk, Z.nd⟩
    have zq : es1.size = L.length + 1 := by rw [← Array.length_toList, pc.length_eq, List.length_map, List.length_cons]
    have hb1 : es1.size < scanBound := by rw [zq]; exact room
    have hled : w.params.followText "set-order" = true ∨ t1.led = true := Z.led.imp id fun z => by rw [hl1]; exact z
    refine wpAny_bind (hgw _ ?_)
    split
    · refine wpAny_bind ?_
      rw [hashByValue_scannable 8 hsc]
      refine wpAny_pure ?_
      refine scan_tail ?_ oh oe od nd1 is1 pc hb1 ?_ ?_ ?_ ?_
      · intro b s₁ Q' q; cases b <;> first | exact wpAny_pure q | exact wpAny_rule q
      · first | (split <;> first | exact hf1 | exact SetTable.fits_plain_off hf1) | exact hf1
      · first | (split <;> exact hr1) | exact hr1
      · first | (split <;> exact hled) | exact hled
      · intro h' L2 es2 ep2 t2 sb p2 r; dsimp only; exact wpAny_pure (hQ true h' L2 es2 ep2 t2 sb r (fun z => absurd z hnk) fun _ => p2)
    · refine wpAny_bind (wpAny_pure ?_)
      simp only [↓reduceIte]
      refine scan_tail ?_ oh oe od nd1 is1 pc hb1 hf1 hr1 hled ?_
      · intro b s₁ Q' q; cases b <;> first | exact wpAny_pure q | exact wpAny_rule q
      · intro h' L2 es2 ep2 t2 sb p2 r; dsimp only; exact wpAny_pure (hQ true h' L2 es2 ep2 t2 sb r (fun z => absurd z hnk) fun _ => p2)
end
end PD
set_option Elab.async false
set_option linter.all false
set_option maxRecDepth 100000
set_option maxHeartbeats 4000000
namespace PD
open PySem PySem.Spec PyProof.Rows L2
/-! ### one face for both kinds of sets -/
structure SetI (P : Program) (w : World) where
  κ : Type
  is : Heap → Value → κ → Prop
  st : Heap → Addr → List (Value × κ) → Prop
  bound : Nat
  is_keep : ∀ {h h' : Heap} {v : Value} {k : κ}, is h v k → (∀ b o, h.get? b = some o → h'.get? b = some o) → is h' v k
  is_put : ∀ {h h' : Heap} {a : Addr} {L : List (Value × κ)} {v : Value} {k : κ}, is h v k → st h a L → Heap.SameBut a h h' → is h' v k
  st_keep : ∀ {h h' : Heap} {a : Addr} {L : List (Value × κ)}, st h a L → (∀ o, h.get? a = some o → h'.get? a = some o) → (∀ p ∈ L, is h' p.1 p.2) → st h' a L
  st_is : ∀ {h : Heap} {a : Addr} {L : List (Value × κ)}, st h a L → ∀ p ∈ L, is h p.1 p.2
  st_nd : ∀ {h : Heap} {a : Addr} {L : List (Value × κ)}, st h a L → (L.map (·.2)).Nodup
  fresh : ∀ {h : Heap} {a : Addr}, h.get? a = some { cls := .type "set", dict := none, data := .set #[] 0 (.fresh 0 0 (!w.params.followText "set-order")) } → st h a []
  add : ∀ {A : Around} {E : Value → Shared → Prop} {s : Shared} {a : Addr} {L : List (Value × κ)} {v : Value} {k : κ} {Q : Bool → Shared → Prop}, A.units < cLine → st s.heap a L → is s.heap v k → L.length + 1 < bound →
    (∀ b h' tk L', Heap.SameBut a s.heap h' → s.toks ≤ tk → st h' a L' → (k ∈ L.map (·.2) → L' = L) → (k ∉ L.map (·.2) → L'.Perm ((v, k) :: L)) → Q b { s with heap := h', toks := tk }) → wpAny (model P w) A (setAdd a v) Q E s
  walk : ∀ {h : Heap} {a : Addr} {L : List (Value × κ)}, st h a L → ∃ (es : Array (Int × Value)) (ep : Nat) (t : SetTable), SetAt h a es ep t ∧ t.fits es.size = true ∧ es.size < scanBound ∧ Ris t.place.toList ∧ (w.params.followText "set-order" = true ∨ t.led = true) ∧ es.toList.map (·.2) = L.map (·.1)
def scanI (P : Program) (w : World) : SetI P w where
  κ := Key
  is := fun _ v k => (mixKind P w).is k v = true
  st := fun h a L => ∃ es ep t, KScan P w h a L es ep t
  bound := scanBound
  is_keep := fun h _ => h
  is_put := fun h _ _ => h
  st_keep := fun ⟨es, ep, t, Z⟩ k _ => by
    obtain ⟨o, ho, r⟩ := Z.ob
    exact ⟨es, ep, t, ⟨o, k o ho, r⟩, Z.rows, Z.is, Z.nd, Z.few, Z.fit, Z.ris, Z.led⟩
  st_is := fun ⟨_, _, _, Z⟩ => Z.is
  st_nd := fun ⟨_, _, _, Z⟩ => Z.nd
  fresh := fun ho => ⟨#[], 0, _, ⟨_, ho, ⟨rfl, rfl, rfl⟩, rfl⟩, rfl, fun p hp => (by cases hp), List.nodup_nil, by decide, by rfl, List.Pairwise.nil, by
    show _ ∨ (!w.params.followText "set-order") = true
    cases w.params.followText "set-order"
    · exact .inr rfl
    · exact .inl rfl⟩
  add := @fun A E s a L v k Q hu ⟨es, ep, t, Z⟩ hv room q => by
    unfold setAdd
    refine wpAny_holding ?_
    refine wpAny_bind ((mixKind P w).pyHash hv ?_)
    exact scan_add (s := { s with toks := s.toks + 1 }) Z hv room fun b h' L' es' ep' t' sb Z' c1 c2 => q b h' _ L' sb (Nat.le_succ _) ⟨es', ep', t', Z'⟩ c1 c2
  walk := fun ⟨es, ep, t, Z⟩ => by
    obtain ⟨o, ho, hx, hd⟩ := Z.ob
    refine ⟨es, ep, t, ⟨o, ho, hx.1, hd⟩, Z.fit, Z.few, Z.ris, Z.led, ?_⟩
    rw [Z.rows, List.map_map]
    rfl
def sh0 (h : Heap) : Shared := { heap := h }
def upK (L : List (Addr × List Key)) : List (Value × List Key) := L.map fun p => (Value.ref p.1, p.2)
theorem upK_keys (L : List (Addr × List Key)) : (upK L).map (·.2) = L.map (·.2) := by
  unfold upK
  rw [List.map_map]
  rfl
def tabI (P : Program) (w : World) : SetI P w where
  κ := List Key
  is := fun h v k => ∃ a, v = Value.ref a ∧ KT P w h k a
  st := fun h a L => ∃ M es ep t, L = upK M ∧ KSet P w h a M es ep t
  bound := 64
  is_keep := fun ⟨a, e, o, items, n, ho, r⟩ k => ⟨a, e, o, items, n, k _ _ ho, r⟩
  is_put := fun ⟨b, e, x⟩ ⟨M, es, ep, t, _, Z⟩ sb => by
    obtain ⟨o, ho, _, hd⟩ := Z.ob
    exact ⟨b, e, kT_same x ho hd sb⟩
  st_keep := fun ⟨M, es, ep, t, e, Z⟩ k i => by
    obtain ⟨o, ho, r⟩ := Z.ob
    refine ⟨M, es, ep, t, e, ⟨o, k o ho, r⟩, Z.rows, Z.tab, Z.nd, fun p hp => ?_, Z.led, Z.room, Z.few⟩
    subst e
    obtain ⟨a, e1, x⟩ := i (Value.ref p.1, p.2) (List.mem_map.mpr ⟨p, hp, rfl⟩)
    injection e1 with e1
    rw [e1]
    exact x
  st_is := fun ⟨M, es, ep, t, e, Z⟩ p hp => by
    subst e
    obtain ⟨q, hq, rfl⟩ := List.mem_map.mp hp
    exact ⟨q.1, rfl, Z.tup q hq⟩
  st_nd := fun ⟨M, es, ep, t, e, Z⟩ => by
    subst e
    rw [upK_keys]
    exact Z.nd
  fresh := fun ho => ⟨[], #[], 0, _, rfl, ⟨_, ho, ⟨rfl, rfl, rfl⟩, rfl⟩, rfl, ⟨List.Pairwise.nil, rfl, rfl, .inl rfl, fun x hx => (by cases hx), fun i h j hi => (by simp at hi)⟩, List.nodup_nil, fun p hp => (by cases hp), by
      show _ ∨ (!w.params.followText "set-order") = true
      cases w.params.followText "set-order"
      · exact .inr rfl
      · exact .inl rfl,
    by show 0 * 5 < 7 * 3; decide, by show 0 < 64; decide⟩
  add := @fun A E s a L v k Q hu ⟨M, es, ep, t, e, Z⟩ ⟨b, e2, x⟩ room q => by
    subst e e2
    unfold setAdd
    refine wpAny_holding ?_
    refine wpAny_bind (wpAny_pyHash_tuple hu x ?_)
    have hlen : M.length + 1 < 64 := by simpa [upK] using room
    refine add_k (s := { s with toks := s.toks + (k.length + 1) }) Z x hu hlen fun b' h' L' es' ep' t' sb Z' c1 c2 => q b' h' _ (upK L') sb (Nat.le_add_right _ _) ⟨L', es', ep', t', rfl, Z'⟩ (fun m => ?_) fun m => ?_
    · rw [upK_keys] at m
      rw [c1 m]
    · rw [upK_keys] at m
      exact (c2 m).map _
  walk := @fun h a L ⟨M, es, ep, t, e, Z⟩ => by
    subst e
    obtain ⟨o, ho, hx, hd⟩ := Z.ob
    refine ⟨es, ep, t, ⟨o, ho, hx.1, hd⟩, KSet.fits (s := sh0 h) Z, ?_, Z.tab.ris, Z.led, ?_⟩
    · have h1 := KSet.size (s := sh0 h) Z
      have h2 := Z.few
      unfold scanBound
      omega
    · rw [Z.rows]
      unfold rowsK upK
      rw [List.map_map, List.map_map]
      rfl
structure Gets {κ : Type} (ks : List (Value × κ)) (i : Nat) (L : List (Value × κ)) : Prop where
  sub : ∀ p ∈ L, p ∈ ks.take i
  all : ∀ p ∈ ks.take i, p.2 ∈ L.map (·.2)
  len : L.length ≤ i
theorem Gets.zero {κ : Type} (ks : List (Value × κ)) : Gets ks 0 [] := ⟨fun p h => (by cases h), fun p h => (by simp at h), Nat.le_refl _⟩
theorem Gets.same {κ : Type} {ks L : List (Value × κ)} {i : Nat} {x : Value × κ} (g : Gets ks i L) (h : ks[i]? = some x) (m : x.2 ∈ L.map (·.2)) : Gets ks (i + 1) L :=
  ⟨fun p hp => by rw [take_next h]; exact List.mem_append_left _ (g.sub p hp),
   fun p hp => by
    rw [take_next h] at hp
    rcases List.mem_append.mp hp with z | z
    · exact g.all p z
    · rw [List.mem_singleton.mp z]; exact m,
   Nat.le_succ_of_le g.len⟩
theorem Gets.more {κ : Type} {ks L L' : List (Value × κ)} {i : Nat} {x : Value × κ} (g : Gets ks i L) (h : ks[i]? = some x) (pm : L'.Perm (x :: L)) : Gets ks (i + 1) L' := by
  refine ⟨fun p hp => ?_, fun p hp => ?_, by rw [pm.length_eq, List.length_cons]; exact Nat.succ_le_succ g.len⟩
  · rw [take_next h]
    exact (List.mem_cons.mp (pm.mem_iff.mp hp)).elim (fun e => by rw [e]; exact List.mem_append_right _ (List.mem_singleton.mpr rfl)) fun z => List.mem_append_left _ (g.sub p z)
  · rw [(pm.map (·.2)).mem_iff, List.map_cons]
    rw [take_next h] at hp
    exact (List.mem_append.mp hp).elim (fun z => List.mem_cons_of_mem _ (g.all p z)) fun z => by rw [List.mem_singleton.mp z]; exact List.mem_cons_self
section
variable {P : Program} {w : World} {A : Around} {E : Value → Shared → Prop} {s : Shared} (J : SetI P w)
theorem set_loop {I : Addr} {fp wr : List Addr} {G : Array GenState → Array GenState → Prop} {n : Nat} {Pv : Nat → Value → Prop} {St : Nat → Shared → Prop} {R : Result → Shared → Prop}
    (W : WalksS P w A.in1 I fp wr G n Pv St) (S : Addr) (sf : S ∉ fp) (ks : List (Value × J.κ)) (hn : n = ks.length) (few : ks.length < J.bound) (hval : ∀ i v, Pv i v → ∃ k, ks[i]? = some (v, k))
    (h0 : Heap) (hk : ∀ p ∈ ks, J.is h0 p.1 p.2) (z0 : h0.get? S = none) (w0 : ∀ b ∈ wr, h0.get? b = none) (gu : A.in1.units < cLine) :
    ∀ (k i : Nat) (s : Shared), n - i = k → i ≤ n → St i s → (∀ b o, h0.get? b = some o → s.heap.get? b = some o) → (∃ L, J.st s.heap S L ∧ Gets ks i L) →
      (∀ s' L, Moved (S :: wr) G s s' → J.st s'.heap S L → Gets ks n L → (∀ b o, h0.get? b = some o → s'.heap.get? b = some o) → R (.ok (.ret .none)) s') →
      codeAny (model P w) A (.builtin "set.update.loop" ⟨[.ref S, .ref I], []⟩) R s := by
  have sw : S ∉ wr := fun h => sf (W.sub _ h)
  have sub1 : ∀ b ∈ wr, b ∈ S :: wr := fun b hb => List.mem_cons_of_mem _ hb
  have keepM : ∀ {s s' : Shared}, Moved wr G s s' → (∀ b o, h0.get? b = some o → s.heap.get? b = some o) → ∀ b o, h0.get? b = some o → s'.heap.get? b = some o := fun hm hkp b o e =>
    hm.heap b o (fun hb => by rw [w0 b hb] at e; cases e) (hkp b o e)
  intro k
  induction k with
  | zero =>
    intro i s ek hi hst kp ⟨L, hS, g⟩ hR
    obtain rfl : i = n := by omega
    refine codeAny_builtin F.entry_set_update_loop ?_
    rw [Around.under_plainId F.plain_set_update_loop _]
    show wpAny _ A.in1 (pyNext (.ref I) >>= _) _ _ s
    refine wpAny_bind (W.done s _ _ hst fun s' hm => ?_)
    show wpAny _ A.in1 (ret Value.none) _ _ s'
    have kp2 := keepM hm kp
    have sub : ∀ p ∈ L, p ∈ ks := fun p hp => List.mem_of_mem_take (g.sub p hp)
    exact wpAny_pure (hR s' L (hm.mono sub1) (J.st_keep hS (fun o e => hm.heap S o sw e) fun p hp => J.is_keep (hk p (sub p hp)) kp2) g kp2)
  | succ k ih =>
    intro i s ek hi hst kp ⟨L, hS, g⟩ hR
    have lt : i < n := by omega
    refine codeAny_builtin F.entry_set_update_loop ?_
    rw [Around.under_plainId F.plain_set_update_loop _]
    show wpAny _ A.in1 (pyNext (.ref I) >>= _) _ _ s
    refine wpAny_bind (W.item i s _ _ lt hst fun v s' hP hst' hm => ?_)
    obtain ⟨y, hp⟩ := hval i v hP
    have kp2 := keepM hm kp
    have sub : ∀ p ∈ L, p ∈ ks := fun p hp => List.mem_of_mem_take (g.sub p hp)
    have hS' : J.st s'.heap S L := J.st_keep hS (fun o e => hm.heap S o sw e) fun q hq => J.is_keep (hk q (sub q hq)) kp2
    have gx : J.is s'.heap v y := J.is_keep (hk (v, y) (List.mem_of_getElem? hp)) kp2
    show wpAny _ A.in1 (holding [v] (setAdd S v) >>= _) _ _ s'
    refine wpAny_bind (wpAny_holding ?_)
    refine J.add gu hS' gx (by have := g.len; omega) fun b h' tk L' hsb htk hS2 c1 c2 => ?_
    have g' : Gets ks (i + 1) L' := by
      rcases Classical.em (y ∈ L.map (·.2)) with c | c
      · rw [c1 c]; exact g.same hp c
      · exact g.more hp (c2 c)
    have kp3 : ∀ b o, h0.get? b = some o → h'.get? b = some o := fun b o e => (hsb.2 b (fun z => by rw [z, z0] at e; cases e)).trans (kp2 b o e)
    refine wpAny_pure ⟨plainId_quiet F.plain_set_update_loop _, ih (i + 1) _ (by omega) lt (W.frame _ s' _ _ hst' htk fun b hb o e => ?_) kp3 ⟨L', hS2, g'⟩ fun s'' L2 hm2 hS3 g2 kp4 => ?_⟩
    · rw [hsb.2 b (fun h : b = S => sf (by rw [← h]; exact hb))]; exact e
    · refine hR s'' L2 (Moved.trans W.gtrans ((hm.mono sub1).then_heap htk fun b o hb e => ?_) hm2) hS3 g2 kp4
      rw [hsb.2 b (fun h : b = S => hb (by rw [h]; exact List.mem_cons_self))]; exact e
end
end PD
set_option Elab.async false
set_option linter.all false
set_option maxRecDepth 100000
set_option maxHeartbeats 4000000
namespace PD
open PySem PySem.Spec PyProof.Rows L2
section
variable {P : Program} {w : World} {A : Around} {E : Value → Shared → Prop} {s : Shared} (J : SetI P w)
abbrev newSet (w : World) : Obj := { cls := .type "set", dict := none, data := .set #[] 0 (.fresh 0 0 (!w.params.followText "set-order")) }
theorem call_set_listJ {l : Addr} {items : Array Value} (ks : List (Value × J.κ)) {Q : Value → Shared → Prop} (hh : A.handled = none) (hl : s.heap.IsList l items) (hit : items.toList = ks.map (·.1))
    (hk : ∀ p ∈ ks, J.is s.heap p.1 p.2) (few : ks.length < J.bound) (gu : A.units + 3 < cLine)
    (h : ∀ (h' : Heap) (tk : Nat) L, J.st h' s.heap.objs.size L → Gets ks ks.length L → (∀ b o, s.heap.get? b = some o → h'.get? b = some o) → Q (.ref s.heap.objs.size) { s with heap := h', toks := tk }) :
    wpAny (model P w) A (call (.type "set") [.ref l]) Q E s := by
  have isz : items.size = ks.length := by
    have q := congrArg List.length hit
    rw [Array.length_toList, List.length_map] at q
    exact q
  obtain ⟨c, tl, hmro⟩ := F.called_set.mro
  have hmade := F.called_set.made
  have hsub := F.called_set.sub
  refine wpAny_call (codeAny_of_tree ?_)
  show wpAny _ _ (callAny (.type "set") _) _ _ _
  refine wpAny_pure ⟨Code.quiet_builtin _ (by decide +kernel), codeAny_builtin F.entry_type_call ?_⟩
  rw [Around.under_plain (weight_type_call_type "set" [.ref l] []) rfl]
  have h1 := F.called_set.notType
  have h2 := F.called_set.canCreate
  have hct := F.typeCall_set_1 (.ref l)
  repeat (any_goals (first | assumption | wp_step))
  refine codeAny_mono (code_set_led1 (.ref l) (E := E) (Q₁ := fun obj s₁ => obj = .ref s.heap.objs.size ∧ s₁ = { s with heap := s.heap.push (newSet w) }) ⟨rfl, rfl⟩) fun r s₁ hr => ?_
  cases r with
  | error e => exact hr
  | ok fl =>
    cases fl with
    | ret obj =>
      obtain ⟨rfl, rfl⟩ := hr
      have hS : (s.heap.push (newSet w)).get? s.heap.objs.size = some (newSet w) := Heap.get?_push_size _ rfl
      have hT : Shared.TypeIs { s with heap := s.heap.push (newSet w) } (.ref s.heap.objs.size) "set" := ⟨_, hS, rfl⟩
      have hli := F.called_set.init.lookup
      have hbi := F.called_set.init.bind (.ref s.heap.objs.size)
      repeat (any_goals (first | assumption | wp_step))
      refine codeAny_mono (codeAny_call_builtin (R := wants (fun r s₂ => r = .none ∧ ∃ h' tk L, s₂ = { s with heap := h', toks := tk } ∧ J.st h' s.heap.objs.size L ∧ Gets ks ks.length L ∧
          (∀ b o, s.heap.get? b = some o → h'.get? b = some o)) E) F.called_set.init.plain F.entry_set_init (check_set_init_1 hT ?_)) fun r₂ s₂ hr₂ => ?_
      · obtain ⟨ol, hol, hcl, nl, hdl⟩ := hl
        obtain ⟨ocls, odict, odata, oslots⟩ := ol
        simp only at hcl hdl
        subst hcl; subst hdl
        have hol' : (s.heap.push (newSet w)).get? l = some { cls := .type "list", dict := odict, data := .seq items nl, slots := oslots } := Heap.get?_push_of_some _ hol
        have hsls := F.sub_list_set
        have hslf := F.sub_list_frozenset
        have hne : (Value.type "list" == Value.type "dict") = false := by decide
        have hl1 : (s.heap.push (newSet w)).IsList l items := ⟨_, hol', rfl, nl, rfl⟩
        unfold Builtin.«set.__init__» noKeywords Builtin.Frozenset.updateFrom
        generalize hPI : pyIter = PI
        wp_walk
        subst hPI
        refine wpAny_pyIter_list hl1 ?_
        refine wpAny_bind (wpAny_runValue ?_)
        have hlS : l < s.heap.objs.size := Heap.lt_size hol
        have hh3 : A.in1.in1.in1.handled = none := by simp [hh]
        have hneI : l ≠ (s.heap.push (newSet w)).objs.size := by
          rw [Heap.size_push]; exact Nat.ne_of_lt (Nat.lt_succ_of_lt hlS)
        have sf : s.heap.objs.size ∉ [(s.heap.push (newSet w)).objs.size, l] := by
          rw [Heap.size_push]; simp only [List.mem_cons, List.mem_singleton, List.not_mem_nil, or_false, not_or]
          exact ⟨Nat.ne_of_lt (Nat.lt_succ_self _), Nat.ne_of_gt hlS⟩
        have hval : ∀ (i : Nat) (v : Value), items[i]? = some v → ∃ k, ks[i]? = some (v, k) := fun i v hv => by
          have q : items.toList[i]? = some v := by rw [Array.getElem?_toList]; exact hv
          rw [hit, List.getElem?_map] at q
          cases hq : ks[i]? with
          | none => rw [hq] at q; cases q
          | some p =>
            rw [hq] at q
            refine ⟨p.2, ?_⟩
            rw [← Option.some.inj q]
        have none_of : ∀ b, s.heap.objs.size ≤ b → s.heap.get? b = none := fun b hb => by
          cases q : s.heap.get? b with
          | none => rfl
          | some o => exact absurd (Nat.lt_of_lt_of_le (Heap.lt_size q) hb) (Nat.lt_irrefl _)
        refine set_loop J ((Walks.list hh3 _ l hneI items).toS) s.heap.objs.size
          sf ks isz few hval s.heap hk (none_of _ (Nat.le_refl _)) (fun b hb => none_of b (by
            rw [List.mem_singleton.mp hb, Heap.size_push]
            exact Nat.le_succ _)) gu (items.size - 0) 0 _ (by omega) (Nat.zero_le _)
          ⟨⟨_, Heap.get?_push_size _ rfl, rfl, rfl⟩, (hl1.push _)⟩ (fun b o e => Heap.get?_push_of_some _ (Heap.get?_push_of_some _ e)) ?hS0 ?hR
        case hS0 =>
          have hget : ((s.heap.push (newSet w)).push { cls := .type "list_iterator", data := .fields #[.ref l, .int 0 0] }).get? s.heap.objs.size = some (newSet w) := Heap.get?_push_of_some _ hS
          exact ⟨[], J.fresh hget, Gets.zero ks⟩
        case hR =>
          intro s' L hm hS' g' kp
          obtain ⟨h', g2, d', tk', os'⟩ := s'
          have eg : g2 = s.gens := hm.gens
          have ed : d' = s.drawn := hm.drawn
          have eo : os' = s.os := hm.os
          subst eg; subst ed; subst eo
          show wpAny _ _ _ _ _ _
          refine wpAny_pure ?_
          show wpAny _ _ (ret Value.none) _ _ _
          rw [isz] at g'
          exact wpAny_pure ⟨rfl, h', tk', L, rfl, hS', g', kp⟩
      · cases r₂ with
        | error e => exact hr₂
        | ok fl₂ =>
          cases fl₂ with
          | ret r =>
            obtain ⟨rfl, h', tk, L, rfl, hS', g', hk'⟩ := hr₂
            repeat (any_goals (first | assumption | wp_step))
            exact h _ _ _ hS' g' hk'
          | _ => exact hr₂.elim
    | _ => exact hr.elim
theorem call_set_tupleJ {l : Addr} {items : Array Value} (ks : List (Value × J.κ)) {Q : Value → Shared → Prop} (hh : A.handled = none) (hl : s.heap.IsTuple l items) (hit : items.toList = ks.map (·.1))
    (hk : ∀ p ∈ ks, J.is s.heap p.1 p.2) (few : ks.length < J.bound) (gu : A.units + 3 < cLine)
    (h : ∀ (h' : Heap) (tk : Nat) L, J.st h' s.heap.objs.size L → Gets ks ks.length L → (∀ b o, s.heap.get? b = some o → h'.get? b = some o) → Q (.ref s.heap.objs.size) { s with heap := h', toks := tk }) :
    wpAny (model P w) A (call (.type "set") [.ref l]) Q E s := by
  have isz : items.size = ks.length := by
    have q := congrArg List.length hit
    rw [Array.length_toList, List.length_map] at q
    exact q
  obtain ⟨c, tl, hmro⟩ := F.called_set.mro
  have hmade := F.called_set.made
  have hsub := F.called_set.sub
  refine wpAny_call (codeAny_of_tree ?_)
  show wpAny _ _ (callAny (.type "set") _) _ _ _
  refine wpAny_pure ⟨Code.quiet_builtin _ (by decide +kernel), codeAny_builtin F.entry_type_call ?_⟩
  rw [Around.under_plain (weight_type_call_type "set" [.ref l] []) rfl]
  have h1 := F.called_set.notType
  have h2 := F.called_set.canCreate
  have hct := F.typeCall_set_1 (.ref l)
  repeat (any_goals (first | assumption | wp_step))
  refine codeAny_mono (code_set_led1 (.ref l) (E := E) (Q₁ := fun obj s₁ => obj = .ref s.heap.objs.size ∧ s₁ = { s with heap := s.heap.push (newSet w) }) ⟨rfl, rfl⟩) fun r s₁ hr => ?_
  cases r with
  | error e => exact hr
  | ok fl =>
    cases fl with
    | ret obj =>
      obtain ⟨rfl, rfl⟩ := hr
      have hS : (s.heap.push (newSet w)).get? s.heap.objs.size = some (newSet w) := Heap.get?_push_size _ rfl
      have hT : Shared.TypeIs { s with heap := s.heap.push (newSet w) } (.ref s.heap.objs.size) "set" := ⟨_, hS, rfl⟩
      have hli := F.called_set.init.lookup
      have hbi := F.called_set.init.bind (.ref s.heap.objs.size)
      repeat (any_goals (first | assumption | wp_step))
      refine codeAny_mono (codeAny_call_builtin (R := wants (fun r s₂ => r = .none ∧ ∃ h' tk L, s₂ = { s with heap := h', toks := tk } ∧ J.st h' s.heap.objs.size L ∧ Gets ks ks.length L ∧
          (∀ b o, s.heap.get? b = some o → h'.get? b = some o)) E) F.called_set.init.plain F.entry_set_init (check_set_init_1 hT ?_)) fun r₂ s₂ hr₂ => ?_
      · obtain ⟨ol, hol, hcl, nl, hdl⟩ := hl
        obtain ⟨ocls, odict, odata, oslots⟩ := ol
        simp only at hcl hdl
        subst hcl; subst hdl
        have hol' : (s.heap.push (newSet w)).get? l = some { cls := .type "tuple", dict := odict, data := .seq items nl, slots := oslots } := Heap.get?_push_of_some _ hol
        have hsls := F.sub_tuple_set
        have hslf := F.sub_tuple_frozenset
        have hne : (Value.type "tuple" == Value.type "dict") = false := by decide
        have hl1 : (s.heap.push (newSet w)).IsTuple l items := ⟨_, hol', rfl, nl, rfl⟩
        unfold Builtin.«set.__init__» noKeywords Builtin.Frozenset.updateFrom
        generalize hPI : pyIter = PI
        wp_walk
        subst hPI
        refine wpAny_pyIter_tuple hl1 ?_
        refine wpAny_bind (wpAny_runValue ?_)
        have hlS : l < s.heap.objs.size := Heap.lt_size hol
        have hh3 : A.in1.in1.in1.handled = none := by simp [hh]
        have hneI : l ≠ (s.heap.push (newSet w)).objs.size := by
          rw [Heap.size_push]; exact Nat.ne_of_lt (Nat.lt_succ_of_lt hlS)
        have sf : s.heap.objs.size ∉ [(s.heap.push (newSet w)).objs.size, l] := by
          rw [Heap.size_push]; simp only [List.mem_cons, List.mem_singleton, List.not_mem_nil, or_false, not_or]
          exact ⟨Nat.ne_of_lt (Nat.lt_succ_self _), Nat.ne_of_gt hlS⟩
        have hval : ∀ (i : Nat) (v : Value), items[i]? = some v → ∃ k, ks[i]? = some (v, k) := fun i v hv => by
          have q : items.toList[i]? = some v := by rw [Array.getElem?_toList]; exact hv
          rw [hit, List.getElem?_map] at q
          cases hq : ks[i]? with
          | none => rw [hq] at q; cases q
          | some p =>
            rw [hq] at q
            refine ⟨p.2, ?_⟩
            rw [← Option.some.inj q]
        have none_of : ∀ b, s.heap.objs.size ≤ b → s.heap.get? b = none := fun b hb => by
          cases q : s.heap.get? b with
          | none => rfl
          | some o => exact absurd (Nat.lt_of_lt_of_le (Heap.lt_size q) hb) (Nat.lt_irrefl _)
        refine set_loop J ((Walks.tuple hh3 _ l hneI items).toS) s.heap.objs.size
          sf ks isz few hval s.heap hk (none_of _ (Nat.le_refl _)) (fun b hb => none_of b (by
            rw [List.mem_singleton.mp hb, Heap.size_push]
            exact Nat.le_succ _)) gu (items.size - 0) 0 _ (by omega) (Nat.zero_le _)
          ⟨⟨_, Heap.get?_push_size _ rfl, rfl, rfl⟩, (hl1.push _)⟩ (fun b o e => Heap.get?_push_of_some _ (Heap.get?_push_of_some _ e)) ?hS0 ?hR
        case hS0 =>
          have hget : ((s.heap.push (newSet w)).push { cls := .type "tuple_iterator", data := .fields #[.ref l, .int 0 0] }).get? s.heap.objs.size = some (newSet w) := Heap.get?_push_of_some _ hS
          exact ⟨[], J.fresh hget, Gets.zero ks⟩
        case hR =>
          intro s' L hm hS' g' kp
          obtain ⟨h', g2, d', tk', os'⟩ := s'
          have eg : g2 = s.gens := hm.gens
          have ed : d' = s.drawn := hm.drawn
          have eo : os' = s.os := hm.os
          subst eg; subst ed; subst eo
          show wpAny _ _ _ _ _ _
          refine wpAny_pure ?_
          show wpAny _ _ (ret Value.none) _ _ _
          rw [isz] at g'
          exact wpAny_pure ⟨rfl, h', tk', L, rfl, hS', g', kp⟩
      · cases r₂ with
        | error e => exact hr₂
        | ok fl₂ =>
          cases fl₂ with
          | ret r =>
            obtain ⟨rfl, h', tk, L, rfl, hS', g', hk'⟩ := hr₂
            repeat (any_goals (first | assumption | wp_step))
            exact h _ _ _ hS' g' hk'
          | _ => exact hr₂.elim
    | _ => exact hr.elim
end
end PD
set_option Elab.async false
set_option linter.all false
set_option maxRecDepth 100000
set_option maxHeartbeats 4000000
namespace PD
open PySem PySem.Spec PyProof.Rows L2
section
variable {P : Program} {w : World} {A : Around} {E : Value → Shared → Prop} {s : Shared} (J : SetI P w)
theorem eachIs_map {α β γ : Type} {R : α → β → Prop} {f : γ → α} {g : γ → β} : ∀ {l : List γ}, (∀ x ∈ l, R (f x) (g x)) → PySem.W.EachIs R (l.map f) (l.map g)
  | [], _ => .nil
  | x :: l, h => .cons (h x (List.mem_cons_self ..)) (eachIs_map fun y hy => h y (List.mem_cons_of_mem _ hy))
theorem eachIs_fst {α β : Type} {R : α → β → Prop} {f : β → α} : ∀ {vs : List α} {l : List β}, PySem.W.EachIs (fun v b => v = f b) vs l → vs = l.map f
  | _, _, .nil => rfl
  | _, _, .cons h t => by rw [List.map_cons, h, eachIs_fst (R := R) t]
/-- sorted(a set) -/
theorem sorted_setJ {a : Addr} {L : List (Value × J.κ)} {Q : Value → Shared → Prop} (enc : J.κ → PyData) (Z : J.st s.heap a L) (hh : A.handled = none)
    (hr : ∀ h' : Heap, (∀ b o, s.heap.get? b = some o → h'.get? b = some o) → ∀ p ∈ L, Reads h' p.1 (enc p.2) []) (hal : PySem.W.AllAlike (L.map fun p => enc p.2)) (hk : PySem.W.Sortable (L.map fun p => enc p.2)) (hu : ∀ p ∈ L, A.units + 2 + (enc p.2).depth < cLine)
    (hQ : ∀ s' q (out : List Value) (c : Nat) (L' : List (Value × J.κ)), (∀ b o, s.heap.get? b = some o → s'.heap.get? b = some o) → s'.gens = s.gens → s'.os = s.os → s.heap.objs.size ≤ q →
      s'.heap.get? q = some (seqObj "list" out.toArray c) → out = L'.map (·.1) → L'.Perm L → L'.Pairwise (fun x y => PySem.W.dataLe false enc x.2 y.2 = true) → Q (.ref q) s') :
    wpAny (model P w) A (call (.builtin "sorted") [.ref a]) Q E s := by
  obtain ⟨es, ep, t, sa, hf, hb, hri, hl, hm⟩ := J.walk Z
  refine Calls.call_function_entry kind_sorted plain_sorted entry_sorted (args_sorted1 _) ?_
  unfold Builtin.«sorted»
  refine wpAny_bind (m := checkCount "sorted" 1 1 _) (wpAny_pure ?_)
  refine wpAny_bind (collect_set (A := A.in1) hh sa hf hb hri hl fun s1 vs k1 hz g1 o1 pm => ?_)
  rw [hm] at pm
  obtain ⟨L1, p1, rfl⟩ := perm_back pm L rfl
  have hsz : es.size = L.length := by
    have q := congrArg List.length hm
    rw [List.length_map, List.length_map, Array.length_toList] at q
    exact q
  have hlen : L1.length ≤ sizeLine := by
    rw [p1.length_eq, ← hsz]
    exact fits_of_scanBound hb
  refine wpAny_bind (wpAny_newList ?_ (by rw [List.length_map]; exact hlen))
  have hoL : (s1.heap.push (seqObj "list" (L1.map (·.1)).toArray 0)).get? s1.heap.objs.size = some (seqObj "list" (L1.map (·.1)).toArray 0) := Heap.get?_push_size _ rfl
  have kk : ∀ b o, s.heap.get? b = some o → (s1.heap.push (seqObj "list" (L1.map (·.1)).toArray 0)).get? b = some o := fun b o e => Heap.get?_push_of_some _ (k1 b o e)
  have me : ∀ p ∈ L1, p ∈ L := fun p hp => p1.mem_iff.mp hp
  refine wpAny_bind (wpAny_holding (PySem.W.list_sort_data (s := { s1 with heap := s1.heap.push (seqObj "list" (L1.map (·.1)).toArray 0) }) (β := Value × J.κ) (bs := L1) (enc := fun p => enc p.2) (R := fun v p => v = p.1) hoL ?_ ?_ ?_ ?_ hlen ?_ fun out e1 e2 => ?_))
  · have := eachIs_map (R := fun v (p : Value × J.κ) => v = p.1) (f := (·.1)) (g := id) (l := L1) fun x _ => rfl
    rwa [List.map_id] at this
  · have := eachIs_map (R := fun v (p : Value × J.κ) => ∃ as, Reads (s1.heap.push (seqObj "list" (L1.map (·.1)).toArray 0)) v (enc p.2) as ∧ s1.heap.objs.size ∉ as) (f := (·.1)) (g := id) (l := L1) fun x hx => ⟨[], hr _ kk x (me x hx), by simp⟩
    rwa [List.map_id] at this
  · intro d hd d' hd'
    obtain ⟨p, hp, rfl⟩ := List.mem_map.mp hd
    obtain ⟨p', hp', rfl⟩ := List.mem_map.mp hd'
    exact hal _ (List.mem_map.mpr ⟨p, me p hp, rfl⟩) _ (List.mem_map.mpr ⟨p', me p' hp', rfl⟩)
  · refine hk.imp (fun z d hd => ?_) fun z d hd => ?_
    · obtain ⟨p, hp, rfl⟩ := List.mem_map.mp hd
      exact z _ (List.mem_map.mpr ⟨p, me p hp, rfl⟩)
    · obtain ⟨p, hp, rfl⟩ := List.mem_map.mp hd
      exact z _ (List.mem_map.mpr ⟨p, me p hp, rfl⟩)
  · intro p hp
    have := hu p (me p hp)
    show A.units + 1 + 1 + (enc p.2).depth < cLine
    omega
  obtain ⟨c, hc⟩ := sortedHeap_at (vs := L1.map (·.1)) (out := out.toArray) hoL
  have e3 : out = (L1.mergeSort (PySem.W.dataLe false fun p => enc p.2)).map (·.1) := eachIs_fst (R := fun (_ : Value) (_ : Value × J.κ) => True) e2
  refine wpAny_pure ⟨_, rfl, hQ _ s1.heap.objs.size out c _ (fun b u e => ?_) g1 o1 hz hc e3 ((List.mergeSort_perm L1 _).trans p1) ?_⟩
  · have q := k1 b u e
    have hlt := Heap.lt_size q
    show (sortedHeap (s1.heap.push (seqObj "list" (L1.map (·.1)).toArray 0)) s1.heap.objs.size (L1.map (·.1)) out.toArray).get? b = some u
    rw [sortedHeap_old (Nat.ne_of_lt hlt) (by rw [size_push']; exact Nat.lt_succ_of_lt hlt)]
    exact Heap.get?_push_of_some _ q
  · exact PySem.W.sort_pairwise (PySem.W.sortLe_total _ _ _) L1
end
end PD
set_option Elab.async false
set_option linter.all false
set_option maxRecDepth 100000
set_option maxHeartbeats 2000000
namespace PD
open PySem PySem.Spec PyProof.Rows L2
def kD : Key → D
  | .inl i => .int i
  | .inr x => .str x.cps.toList
theorem kD_of {d : D} {k : Key} (h : keyD d = some k) : d = kD k := by
  cases d <;> first | (cases h; rfl) | (exact nomatch h)
theorem keyD_kD (k : Key) : keyD (kD k) = some k := by
  cases k with
  | inl i => rfl
  | inr x => cases x; rfl
theorem kD_inj {j k : Key} (h : kD j = kD k) : j = k := by
  have := congrArg keyD h
  rw [keyD_kD, keyD_kD] at this
  exact Option.some.inj this
def tD (ks : List Key) : D := .tup (ks.map kD)
theorem tD_inj {j k : List Key} (h : tD j = tD k) : j = k := by
  have h : j.map kD = k.map kD := by unfold tD at h; injection h
  exact List.map_inj_right (fun _ _ e => kD_inj e) |>.mp h
theorem keysD_of : ∀ {ds : List D} {ks : List Key}, keysD ds = some ks → ds = ks.map kD
  | [], ks, h => by cases h; rfl
  | d :: ds, ks, h => by
    unfold keysD at h
    cases h1 : keyD d with
    | none => rw [h1] at h; cases h
    | some k =>
      cases h2 : keysD ds with
      | none => rw [h1, h2] at h; cases h
      | some l =>
        rw [h1, h2] at h
        cases h
        rw [List.map_cons, ← kD_of h1, ← keysD_of h2]
theorem tD_of {d : D} {ks : List Key} (h : tkeyD d = some ks) : d = tD ks ∧ ks ≠ [] := by
  match d, h with
  | .tup (d :: ds), h =>
    have h' : keysD (d :: ds) = some ks := h
    have e := keysD_of h'
    refine ⟨by unfold tD; rw [← e], fun z => ?_⟩
    rw [z] at e; cases e
def tkeysD : List D → Option (List (List Key))
  | [] => some []
  | d :: ds => match tkeyD d, tkeysD ds with
    | some k, some ks => some (k :: ks)
    | _, _ => none
def leD (d e : D) : Bool := !PySem.W.dataLt (toPy e) (toPy d)
def alkD (ds : List D) : Bool := ds.all fun d => ds.all fun e => PySem.W.alike (toPy d) (toPy e)
def hashD (ds : List D) : Bool := ((keysD ds).isSome && decide (ds.length < 4096)) || ((tkeysD ds).isSome && decide (ds.length < 64))
def fSortSet (d : D) (R : D → Prop) : Prop := match d with
  | .lst ds => hashD ds = true ∧ alkD ds = true ∧ ∀ rs : List D, rs.Nodup → (∀ d, d ∈ rs ↔ d ∈ ds) → rs.Pairwise (fun a b => leD a b = true) → R (.lst rs)
  | .tup ds => hashD ds = true ∧ alkD ds = true ∧ ∀ rs : List D, rs.Nodup → (∀ d, d ∈ rs ↔ d ∈ ds) → rs.Pairwise (fun a b => leD a b = true) → R (.lst rs)
  | _ => False
theorem imm_kD (k : Key) : imm (kD k) = true := by cases k <;> rfl
theorem immL_kD : ∀ ks : List Key, immL (ks.map kD) = true
  | [] => rfl
  | k :: ks => by simp [immL, imm_kD, immL_kD ks]
theorem toPy_ks (ks : List Key) : toPyL (ks.map kD) = ks.map fun k => toPy (kD k) := by
  induction ks with
  | nil => rfl
  | cons k ks ih => rw [List.map_cons, List.map_cons, ← ih]; rfl
theorem reads_key {P : Program} {w : World} {h : Heap} {k : Key} {v : Value} (z : (mixKind P w).is k v = true) : Reads h v (toPy (kD k)) [] := by
  cases k with
  | inl i => obtain ⟨t, rfl⟩ := Value.isInt_shape (show Value.isInt i v = true from z); exact .int i t
  | inr x =>
    cases v <;> first | exact nomatch (show false = true from z) | skip
    have e : _ = x := eq_of_beq (show (_ == x) = true from z)
    subst e
    exact .str _ _
theorem reads_keys {P : Program} {w : World} {h : Heap} {ks : List Key} {vs : List Value} (z : ItemsAre (mixKind P w) ks vs) : ReadsAll h vs (toPyL (ks.map kD)) [] := by
  induction z with
  | nil => exact .nil
  | cons h1 _ ih => exact .cons (as := []) (bs := []) (reads_key h1) ih
theorem reads_tup {P : Program} {w : World} {h : Heap} {ks : List Key} {a : Addr} (z : KT P w h ks a) : Reads h (.ref a) (toPy (tD ks)) [] := by
  obtain ⟨o, items, n, ho, hc, hd, hi⟩ := z
  exact .tuple ho hc hd (reads_keys hi)
theorem relV_key {P : Program} {w : World} {k : Key} {v : Value} (z : (mixKind P w).is k v = true) : RelV (kV k) v := by
  cases k with
  | inl i => obtain ⟨t, rfl⟩ := Value.isInt_shape (show Value.isInt i v = true from z); exact ⟨t, rfl⟩
  | inr x =>
    cases v <;> first | exact nomatch (show false = true from z) | skip
    have e : _ = x := eq_of_beq (show (_ == x) = true from z)
    subst e
    exact ⟨_, rfl⟩
theorem depth_key (k : Key) : (toPy (kD k)).depth = 0 := by cases k <;> simp [kD, toPy, PyData.depth]
theorem depth_keys : ∀ ks : List Key, PyData.depthAll (toPyL (ks.map kD)) = 0
  | [] => by simp [toPyL, PyData.depthAll]
  | k :: ks => by
    show PyData.depthAll (toPy (kD k) :: toPyL (ks.map kD)) = 0
    simp only [PyData.depthAll, depth_key, depth_keys ks]
    rfl
end PD
set_option Elab.async false
set_option linter.all false
set_option maxRecDepth 100000
set_option maxHeartbeats 2000000
namespace PD
open PySem PySem.Spec PyProof.Rows L2
section
variable {X : Cx} {pl : Option (Addr × Addr)} {pins : List (Addr × Obj)} {σ : L2.St} {H1 : Hp} {s1 s2 : Shared}
theorem notHid {H : Hp} {p : Addr} (po : PoolOk pl H) (n : H p = none) : ¬ Hid pl p := fun ⟨⟨a, aL⟩, e, h⟩ => by
  obtain ⟨_, _, _, _, _, _, q1, q2, _⟩ := po a aL e
  rcases h with h | h
  · rw [show p = a from h, q1] at n; cases n
  · rw [show p = aL from h, q2] at n; cases n
theorem fz_list {κ : Type} {wv : Value × κ → V} {dc : κ → D} {B : Hp} : ∀ {L : List (Value × κ)}, (∀ p ∈ L, RelV (wv p) p.1 ∧ Fz X.K pl B (wv p) (dc p.2)) → Vals (L.map wv) (L.map (·.1)) ∧ FzL X.K pl B (L.map wv) (L.map fun p => dc p.2)
  | [], _ => ⟨.nil, .nil⟩
  | p :: L, h => by
    obtain ⟨a, b⟩ := h p (List.mem_cons_self ..)
    obtain ⟨c, d⟩ := fz_list (L := L) fun q hq => h q (List.mem_cons_of_mem _ hq)
    exact ⟨.cons a c, .cons b d⟩
/-- sorted(..) of the set just made -/
theorem sortSet_fin (J : SetI X.prog X.w) (dc : J.κ → D) (wv : Value × J.κ → V) (dinj : ∀ j k, dc j = dc k → j = k) (hb : J.bound ≤ 4096) (hrd : ∀ h v k, J.is h v k → Reads h v (toPy (dc k)) []) (hdep : ∀ k, (toPy (dc k)).depth ≤ 1)
    (hc : X.calm = true) (hu : X.A.units + 64 < cLine) (I1 : Inv X pins σ H1 s1) (po : PoolOk pl H1) (L0 : List (Value × J.κ)) (hw : ∀ p ∈ L0, RelV (wv p) p.1 ∧ Fz X.K pl (vis pl H1) (wv p) (dc p.2) ∧ imm (dc p.2) = true) (few : L0.length < J.bound)
    (hal : PySem.W.AllAlike (L0.map fun p => toPy (dc p.2))) (hso : PySem.W.Sortable (L0.map fun p => toPy (dc p.2))) {Q : Value → Shared → Prop} {E : Value → Shared → Prop}
    (q : ∀ (rs : List D) (v : V) (H' : Hp) (u : Value) (s' : Shared), rs.Nodup → (∀ d, d ∈ rs ↔ d ∈ L0.map fun p => dc p.2) → rs.Pairwise (fun a b => leD a b = true) → Xt pl H1 H' → Fz X.K pl (nw pl H1 H') v (.lst rs) → Inv X pins σ H' s' → RelV v u → Q u s')
    {h' : Heap} {tk : Nat} {a : Addr} {L : List (Value × J.κ)} (Z : J.st h' a L) (g : Gets L0 L0.length L) (kp : ∀ b o, s1.heap.get? b = some o → h'.get? b = some o) :
    wpAny (model X.prog X.w) X.A (call (.builtin "sorted") [.ref a]) Q E { s1 with heap := h', toks := tk } := by
  have I2 : Inv X pins σ H1 { s1 with heap := h', toks := tk } := I1.kept kp
  have me : ∀ p ∈ L, p ∈ L0 := fun p hp => List.mem_of_mem_take (g.sub p hp)
  have hlL : L.length ≤ L0.length := g.len
  refine sorted_setJ (s := { s1 with heap := h', toks := tk }) J (fun k => toPy (dc k)) Z (I1.ok.hd hc) (fun h2 k2 p hp => hrd _ _ _ (J.is_keep (J.st_is Z p hp) k2)) ?_ ?_ (fun p _ => by have := hdep p.2; show X.A.units + 2 + (toPy (dc p.2)).depth < cLine; omega) fun s' qa out c L' k gs os hq hget hout pm pw => ?_
  · intro d hd d' hd'
    obtain ⟨p, hp, rfl⟩ := List.mem_map.mp hd
    obtain ⟨p', hp', rfl⟩ := List.mem_map.mp hd'
    exact hal _ (List.mem_map.mpr ⟨p, me p hp, rfl⟩) _ (List.mem_map.mpr ⟨p', me p' hp', rfl⟩)
  · refine hso.imp (fun z d hd => ?_) fun z d hd => ?_
    · obtain ⟨p, hp, rfl⟩ := List.mem_map.mp hd
      exact z _ (List.mem_map.mpr ⟨p, me p hp, rfl⟩)
    · obtain ⟨p, hp, rfl⟩ := List.mem_map.mp hd
      exact z _ (List.mem_map.mpr ⟨p, me p hp, rfl⟩)
  have hn : H1 qa = none := I2.hok.fresh hq
  have me2 : ∀ p ∈ L', p ∈ L0 := fun p hp => me p (pm.mem_iff.mp hp)
  have ex : Xt pl H1 (upd H1 qa (.lst (L'.map wv))) := .new hn
  obtain ⟨hv, hf⟩ := fz_list (X := X) (pl := pl) (wv := wv) (dc := dc) (B := nw pl H1 (upd H1 qa (.lst (L'.map wv)))) (L := L') fun p hp => by
    obtain ⟨a1, a2, a3⟩ := hw p (me2 p hp)
    exact ⟨a1, (a2.mono (vis_mono ex)).imm (tsub_nw (C := ⟨X.K, pl, fun _ => false⟩) ex) a3⟩
  have hlen : (L'.map wv).length ≤ sizeLine := by
    rw [List.length_map, pm.length_eq, sizeLine_eq]
    omega
  rw [← hout] at hv
  have hv' : Vals (L'.map wv) out.toArray.toList := by simpa using hv
  have JJ : Inv X pins σ (upd H1 qa (.lst (L'.map wv))) { s1 with heap := s'.heap, gens := s'.gens, drawn := s'.drawn, toks := s'.toks } :=
    Inv.call (s := { s1 with heap := h', toks := tk }) (ch := []) I2 (Un.laid k hq hn) (I2.hok.laid k hq ⟨hlen, out, c, hv, hget⟩) (by rw [gs]; exact I2.bare) (fun _ z => nomatch z)
  have e : s' = { s1 with heap := s'.heap, gens := s'.gens, drawn := s'.drawn, toks := s'.toks } := by
    cases s'
    cases s1
    cases os
    rfl
  rw [e]
  refine q (L'.map fun p => dc p.2) (.ref qa) _ (.ref qa) _ ?_ (fun d => ?_) ?_ ex (.lst ?_ hf) JJ rfl
  · have nd := J.st_nd Z
    have nd2 : (L'.map (·.2)).Nodup := (pm.map (·.2)).nodup_iff.mpr nd
    have : (L'.map fun p => dc p.2) = (L'.map (·.2)).map dc := by rw [List.map_map]; rfl
    rw [this]
    exact List.pairwise_map.mpr (nd2.imp fun hne e => hne (dinj _ _ e))
  · constructor
    · intro hd
      obtain ⟨p, hp, rfl⟩ := List.mem_map.mp hd
      exact List.mem_map.mpr ⟨p, me2 p hp, rfl⟩
    · intro hd
      obtain ⟨p, hp, rfl⟩ := List.mem_map.mp hd
      have hp' : p ∈ L0.take L0.length := by rw [List.take_length]; exact hp
      obtain ⟨r, hr, e2⟩ := List.mem_map.mp (g.all p hp')
      exact List.mem_map.mpr ⟨r, pm.mem_iff.mpr hr, by rw [e2]⟩
  · refine List.pairwise_map.mpr (pw.imp fun {x y} h => ?_)
    rw [PySem.W.dataLe_eq] at h
    exact h
  · exact nw_new (notHid po hn) hn upd_same rfl
end
end PD
set_option Elab.async false
set_option linter.all false
set_option maxRecDepth 100000
set_option maxHeartbeats 2000000
namespace PD
open PySem PySem.Spec PyProof.Rows L2
theorem pgs_of {X : Cx} {ts : List Expr} {t t' : TGs} (p : PGs X ts t') (h : ∀ v σ H Q, t v σ H Q → t' v σ H Q) : PGs X ts t := ⟨fun pins s σ H v u Q I r q => p.run pins s σ H v u Q I r (h v σ H Q q)⟩
theorem pts_of {X : Cx} {e : List Expr} {t t' : TT} (p : PTs X e t') (h : ∀ σ H Q, t σ H Q → t' σ H Q) : PTs X e t := ⟨fun pins s σ H Q I q => p.run pins s σ H Q I (h σ H Q q)⟩
theorem room64 {A : Around} {k : Nat} (hr : Room k A) : A.units + 64 < cLine := by have := hr.un; omega
theorem room65 {A : Around} {k : Nat} (hr : Room k A) : A.units + 65 < cLine := by have := hr.un; omega
section
variable {C : Cn} {H0 H H1 H2 H' : Hp} {F : Nat → List Addr} {σ σ' : L2.St} {δ : DEnv} {Q : VK} {ta tb tc : DE} {z : Zn} {t : DA} {E : Ends} {s1 s2 : DS} {K : PySem.W.Frag} {pl : Option (Addr × Addr)} {X : Cx}
theorem cv_ty {n : String} : lift C .n (dC (.ty n)) σ H Q → tC (.ty n) σ H Q := fun ⟨H0, F, δ, R, S, h, q⟩ => q _ _ H h (Xt.refl _ _) (.ty n)
/-! ### statements whose value is read by another rule -/
theorem cvs_setv {i : Nat} {te : TE} (hM : C.M i = false) (cv : ∀ σ H Q, lift C .n ta σ H Q → te σ H Q) : liftS C (dSet i ta) E σ H → tAsg te (gName i) E σ H := fun ⟨H0, F, δ, DD, S, h, q1, q2, q3, q4⟩ =>
  cv _ _ _ ⟨H0, F, δ, _, S, h, fun d v H1 r e f => q1 _ _ _ _ r ((S.ext e).set hM (f.mono (nw_msk S e)))⟩
theorem cvs_setOv {i : Nat} {te : TE} (cv : ∀ σ H Q, lift C .n ta σ H Q → te σ H Q) : liftS C (dSetO i ta) E σ H → tAsg te (gName i) E σ H := fun ⟨H0, F, δ, DD, S, h, q1, q2, q3, q4⟩ =>
  cv _ _ _ ⟨H0, F, δ, _, S, h, fun d v H1 r e f => by
    obtain ⟨F', S'⟩ := S.setN e (by rw [S.len]; exact r.2.1) f (fun _ => r.1)
    exact q1 _ _ _ _ r.2.2 S'⟩
/-- return x, x owned -/
def dRetO (i : Nat) : DS := fun DD δ => match δ[i]? with
  | some (some d) => DD.rt d
  | _ => False
mutual
theorem Own.new {B G : Hp} (ts : TSub B G) {Hx : Hp} : ∀ {Fx : List Addr} {v : V} {d : D}, Own K pl B Hx Fx v d → (∀ a ∈ Fx, G a = Hx a) → Fz K pl G v d
  | _, _, _, .im h f, _ => f.imm ts h
  | _, _, _, .lst h r, k => .lst ((k _ (List.mem_cons_self ..)).trans h) (OwnL.new ts r fun a m => k a (List.mem_cons_of_mem _ m))
  | _, _, _, .dK h r, k => .dK (.inl ((k _ (List.mem_cons_self ..)).trans h)) (OwnK.new ts r fun a m => k a (List.mem_cons_of_mem _ m))
  | _, _, _, .dT h r, k => .dT (.inl ((k _ (List.mem_cons_self ..)).trans h)) (OwnT.new ts r fun a m => k a (List.mem_cons_of_mem _ m))
theorem OwnL.new {B G : Hp} (ts : TSub B G) {Hx : Hp} : ∀ {Fx : List Addr} {v : List V} {d : List D}, OwnL K pl B Hx Fx v d → (∀ a ∈ Fx, G a = Hx a) → FzL K pl G v d
  | _, _, _, .nil, _ => .nil
  | _, _, _, .cons h r, k => .cons (Own.new ts h fun a m => k a (List.mem_append_left _ m)) (OwnL.new ts r fun a m => k a (List.mem_append_right _ m))
theorem OwnK.new {B G : Hp} (ts : TSub B G) {Hx : Hp} : ∀ {Fx : List Addr} {v : List (Key × V)} {d : List (Key × D)}, OwnK K pl B Hx Fx v d → (∀ a ∈ Fx, G a = Hx a) → FzK K pl G v d
  | _, _, _, .nil, _ => .nil
  | _, _, _, .cons h r, k => .cons (Own.new ts h fun a m => k a (List.mem_append_left _ m)) (OwnK.new ts r fun a m => k a (List.mem_append_right _ m))
theorem OwnT.new {B G : Hp} (ts : TSub B G) {Hx : Hp} : ∀ {Fx : List Addr} {v : List (List Key × V)} {d : List (List Key × D)}, OwnT K pl B Hx Fx v d → (∀ a ∈ Fx, G a = Hx a) → FzT K pl G v d
  | _, _, _, .nil, _ => .nil
  | _, _, _, .cons h r, k => .cons (Own.new ts h fun a m => k a (List.mem_append_left _ m)) (OwnT.new ts r fun a m => k a (List.mem_append_right _ m))
end
/-- no frozen objects among the owned: their kinds -/
theorem Own.kinds {B : Hp} {Hx : Hp} : ∀ {Fx : List Addr} {v : V} {d : D}, Own K pl B Hx Fx v d → True := fun _ => trivial
theorem cvs_retO {i : Nat} (hM : C.M i = true) : liftS C (dRetO i) E σ H → tRet (tVar i) E σ H := fun ⟨H0, F, δ, DD, S, h, q1, q2, q3, q4⟩ => by
  unfold dRetO at h
  split at h
  · rename_i d hd
    obtain ⟨v, hv, o⟩ := S.own i d hM hd
    refine ⟨v, hv, q4 d v H h S.xt.sub S.pol (o.new (fun a xs q => ?_) fun a m => ?_)⟩
    · obtain ⟨n, _, q⟩ := of_msk q
      cases r : H0 a with
      | none => exact nw_new n r q rfl
      | some u =>
        have := S.xt.sub a u n r
        rw [q] at this; cases this
        exact nw_tup n r
    · obtain ⟨n, u, q, t⟩ := S.dom i a m
      have r : H0 a = none := by
        cases r : H0 a with
        | none => rfl
        | some w =>
          have := S.bas a w (vis_of n r)
          exact absurd m ((of_msk this).2.1 i)
      have z : isFrz u = false := by
        cases u with
        | frz ob u => cases t
        | _ => rfl
      rw [q, nw_new n r q z]
  · exact h.elim
/-! ### x += (..), tuples -/
theorem iadd_tup {P : Program} {w : World} {A : Around} {E' : Value → Shared → Prop} {s : Shared} {a b : Addr} {vs ws : List Value} {Q' : Value → Shared → Prop} (ha : IsTup s.heap a vs.toArray) (hb : IsTup s.heap b ws.toArray) (hsz : vs.length + ws.length ≤ sizeLine)
    (h0 : vs = [] → Q' (.ref b) s) (h1 : vs ≠ [] → ws = [] → Q' (.ref a) s) (h2 : vs ≠ [] → ws ≠ [] → Q' (.ref s.heap.objs.size) { s with heap := s.heap.push { cls := .type "tuple", data := .seq (vs ++ ws).toArray } }) :
    wpAny (model P w) A (inplaceOp .Add (.ref a) (.ref b)) Q' E' s := by
  obtain ⟨⟨cls, dd, data, sl⟩, ho, hc, n, hd⟩ := id ha
  obtain ⟨⟨cls2, dd2, data2, sl2⟩, ho2, hc2, n2, hd2⟩ := id hb
  simp only at hc hd hc2 hd2
  subst hc hd hc2 hd2
  have no : typeLookup (.type "tuple") (dunderI "add") = pure none := by kernel_rfl
  refine wpAny_inplaceOp_concat ⟨_, ho, rfl⟩ ⟨_, ho2, rfl⟩ no noFill_tuple_add seq_tuple_add ?_
  by_cases e1 : vs = []
  · exact call_meets PySem.F.slot_tuple_add ⟨_, ho, rfl⟩ PySem.F.entry_tuple_add (PySem.F.args_tuple_add_2 _ _) (tuple_addW0 a b vs.toArray ws.toArray n n2 dd dd2 sl sl2 (by simp [e1])) ⟨ho, ho2, h0 e1⟩
  · by_cases e2 : ws = []
    · exact call_meets PySem.F.slot_tuple_add ⟨_, ho, rfl⟩ PySem.F.entry_tuple_add (PySem.F.args_tuple_add_2 _ _) (tuple_addW1 a b vs.toArray ws.toArray n n2 dd dd2 sl sl2 (by simpa using e1) (by simp [e2])) ⟨ho, ho2, h1 e1 e2⟩
    · refine call_meets PySem.F.slot_tuple_add ⟨_, ho, rfl⟩ PySem.F.entry_tuple_add (PySem.F.args_tuple_add_2 _ _) (tuple_addW2 a b vs.toArray ws.toArray n n2 dd dd2 sl sl2 (by simpa using e1) (by simpa using e2) (by rw [List.size_toArray, List.size_toArray]; exact hsz)) ⟨ho, ho2, ?_⟩
      have e : vs.toArray ++ ws.toArray = (vs ++ ws).toArray := by simp
      rw [e]
      exact h2 e1 e2
theorem ip_addT : PIp X .Add (rCatA X.K) := by
  intro pins s σ H x y v u Q I rx ry h
  obtain ⟨a, b, xs, ys, rfl, rfl, ha, hb, hz, q0, q1, q2⟩ := h
  cases rx
  cases ry
  obtain ⟨its, r1, p1, _⟩ := I.tuple ha
  obtain ⟨its2, r2, p2, _⟩ := I.tuple hb
  have e1 : its = [] ↔ xs = [] := by
    rw [← List.length_eq_zero_iff, ← List.length_eq_zero_iff, r1.length]
  have e2 : its2 = [] ↔ ys = [] := by
    rw [← List.length_eq_zero_iff, ← List.length_eq_zero_iff, r2.length]
  refine iadd_tup p1 p2 (by rw [← r1.length, ← r2.length]; exact hz) (fun e => ⟨.ref b, H, I, rfl, q0 (e1.mp e)⟩) (fun e e' => ⟨.ref a, H, I, rfl, q1 (fun z => e (e1.mpr z)) (e2.mp e')⟩) fun e e' => ?_
  have n := I.hok.fresh (Nat.le_refl s.heap.objs.size)
  refine ⟨.ref s.heap.objs.size, _, I.laid (t' := s.toks) (o := .tup (xs ++ ys)) (fun b o e => Heap.get?_push_of_some _ e) (Nat.le_refl _) ⟨by rw [List.length_append]; exact hz, its ++ its2, r1.append r2, ⟨_, Heap.get?_push_size _ rfl, rfl, _, rfl⟩⟩, rfl, q2 (fun z => e (e1.mpr z)) (fun z => e' (e2.mpr z)) _ n⟩
def dAugT (i : Nat) (ta : DE) : DS := fun DD δ => match δ[i]? with
  | some (some (.tup a)) => ta δ fun d => match d with
    | .tup b => immL a = true ∧ immL b = true ∧ a.length + b.length ≤ sizeLine ∧ DD.nx (δ.set i (some (.tup (a ++ b))))
    | _ => False
  | _ => False
theorem cvs_augT {i : Nat} (hM : C.M i = false) : liftS C (dAugT i ta) E σ H → tAug i (lift C .e ta) (rCatA C.K) E σ H := fun ⟨H0, F, δ, DD, S, h, q1, q2, q3, q4⟩ => by
  unfold dAugT at h
  split at h
  · rename_i a hd
    obtain ⟨v, hv, fv⟩ := S.frz i _ hM hd
    cases fv with
    | @tup a1 v1 _ ha f1 =>
      refine ⟨_, hv, H0, F, δ, _, S, h, fun d w H1 r e f2 => ?_⟩
      have S1 := S.ext e
      have ha1 := tupAt_mono (msk_mono (F := F) e) ha
      have f11 := f1.mono (msk_mono (F := F) e)
      have end_ : ∀ {u : V} {H2 : Hp} {g : D}, Xt C.pl H1 H2 → Fz C.K C.pl (nw C.pl H1 H2) u g → DD.nx (δ.set i (some g)) → E.nx (σ.set i (some u)) H2 := fun {u H2 g} e2 fg r => q1 _ _ _ _ r ((S1.ext e2).set hM (fg.mono (nw_msk S1 e2)))
      cases d with
      | tup b =>
        obtain ⟨i1, i2, hl, r⟩ := r
        cases f2 with
        | @tup b1 v2 _ hb fb =>
          have fa := f11.mono (msk_vis)
          refine ⟨a1, b1, v1, v2, rfl, rfl, sq_vis (tupAt_mono msk_vis ha1), sq_vis hb, by rw [f1.len, fb.len]; exact hl, fun e0 => ?_, fun _ e0 => ?_, fun _ _ p n => ?_⟩
          · have e1 : a = [] := List.eq_nil_of_length_eq_zero (by rw [← f1.len, e0]; rfl)
            rw [e1, List.nil_append] at r
            exact end_ (Xt.refl _ _) ((Fz.tup hb fb).imm (tsubN (Xt.refl _ _)) (imm_tup i2)) r
          · have e1 : b = [] := List.eq_nil_of_length_eq_zero (by rw [← fb.len, e0]; rfl)
            rw [e1, List.append_nil] at r
            exact end_ (Xt.refl _ _) ((Fz.tup (tupAt_mono msk_vis ha1) fa).imm (tsubN (Xt.refl _ _)) (imm_tup i1)) r
          · exact end_ (.new n) (newT S1.pol n (fa.append fb) (immL_app i1 i2)) r
      | _ => exact r.elim
  · exact h.elim
/-! ### methods of texts -/
def dM1 (f : D → D → (D → Prop) → Prop) (ta tb : DE) : DE := fun δ R => ta δ fun d => (match d with
  | .str _ => True
  | _ => False) ∧ tb δ fun e => f d e R
theorem cv_m1 {r : V → List V → Hp → VK → Prop} {f : D → D → (D → Prop) → Prop} (o : OpD C.K C.pl (fun x y H Q => r x [y] H Q) f) : lift C .n (dM1 f ta tb) σ H Q → tM1 r (lift C .e ta) (lift C .e tb) σ H Q := fun ⟨H0, F, δ, R, S, h, q⟩ =>
  ⟨H0, F, δ, _, S, h, fun d v H1 r1 e1 f1 => by
    cases d with
    | str w =>
      have f1' := f1
      cases f1'
      exact ⟨⟨_, rfl⟩, H0, F, δ, _, S.ext e1, r1.2, fun d2 v2 H2 r2 e2 f2 => o _ v2 _ d2 H2 Q R ((S.ext e1).ext e2).pol (f1.mono (vis_mono e2)) f2 r2 fun g u H3 r3 e3 f3 => q g u H3 r3 ((e1.trans e2).trans e3) (f3.mono (nw_tail (e1.trans e2) e3))⟩
    | _ => exact r1.1.elim⟩
def fStartswith : D → D → (D → Prop) → Prop
  | .str a, .str b, R => R (.bl (decide (b <+: a)))
  | _, _, _ => False
theorem startswith_S (a b : List Nat) : Txt.startswith ⟨a.toArray⟩ ⟨b.toArray⟩ = decide (b <+: a) := by
  unfold Txt.startswith
  rw [StrLaws.subAt_eq]
  have e1 : (⟨a.toArray⟩ : Str).cps.toList = a := by simp
  have e2 : (⟨b.toArray⟩ : Str).cps.toList = b := by simp
  have l1 : (⟨a.toArray⟩ : Str).length = a.length := by simp [Str.length]
  have l2 : (⟨b.toArray⟩ : Str).length = b.length := by simp [Str.length]
  rw [e1, e2, l1, l2, List.drop_zero]
  by_cases h : b <+: a
  · rw [decide_eq_true h]
    obtain ⟨t, rfl⟩ := h
    simp
  · rw [decide_eq_false h, Bool.and_eq_false_iff]
    by_cases hl : b.length ≤ a.length
    · right
      refine beq_eq_false_iff_ne.mpr fun e => h ?_
      rw [← e]
      exact List.take_prefix _ _
    · left
      exact decide_eq_false (by omega)
theorem md_startswith : OpD K pl (fun x y H Q => ∃ a b, x = .str a ∧ [y] = [.str b] ∧ Q (.bl (Txt.startswith a b)) H) fStartswith := fun x y d e H Q R P fx fy h q => by
  cases d with
  | str a => cases e with
    | str b =>
      cases fx; cases fy
      exact ⟨_, _, rfl, rfl, by rw [startswith_S]; exact q _ _ H h (Xt.refl _ _) (.bl _)⟩
    | _ => exact h.elim
  | _ => cases e <;> exact h.elim
/-- "".join(list of texts) -/
def fJoin : D → D → (D → Prop) → Prop
  | .str [], .lst ds, R => match strsOf ds with
    | some ws => (ws.map (·.length)).sum ≤ sizeLine ∧ R (.str ws.flatten)
    | none => False
  | _, _, _ => False
theorem joinL_nil : ∀ ws : List (List Nat), TL.joinL [] ws = ws.flatten
  | [] => rfl
  | [p] => by simp [TL.joinL]
  | p :: q :: r => by
    show p ++ ([] ++ TL.joinL [] (q :: r)) = _
    rw [joinL_nil (q :: r)]
    rfl
theorem md_join : OpD K pl (fun x y H Q => ∃ a p, ∃ ys : List Str, x = .str a ∧ [y] = [.ref p] ∧ (SqL K H p (ys.map V.str) ∨ SqT K H p (ys.map V.str)) ∧ (ys.map (·.length)).sum + ys.length * a.length ≤ 16777216 ∧ Q (.str (Txt.join a ys)) H) fJoin := fun x y d e H Q R P fx fy h q => by
  match d, e, fx, fy, h with
  | .str [], .lst ds, .str _, .lst (a := a) ha f, h =>
    unfold fJoin at h
    cases e : strsOf ds with
    | none => simp only [e] at h
    | some ws =>
      simp only [e] at h
      refine ⟨_, a, ws.map fun w => (⟨w.toArray⟩ : Str), rfl, rfl, .inl (.inl (.inl (by rw [← strsOf_ok f e]; exact (of_vis ha).2))), ?_, ?_⟩
      · have e1 : ((ws.map fun w => (⟨w.toArray⟩ : Str)).map (·.length)).sum = (ws.map (·.length)).sum := by
          congr 1
          rw [List.map_map]
          apply List.map_congr_left
          intro w _
          simp [Str.length]
        rw [e1]
        simp [Str.length]
        exact h.1
      · have e2 := SX.join_S [] ws
        have e3 : Txt.join ⟨([] : List Nat).toArray⟩ (ws.map fun w => (⟨w.toArray⟩ : Str)) = ⟨ws.flatten.toArray⟩ := by
          rw [← joinL_nil]
          exact e2
        rw [e3]
        exact q _ _ H h.2 (Xt.refl _ _) (.str _)
/-! ### xs.index(x) -/
def idx (ds : List D) (x : D) : Option Nat := ds.findIdx? fun z => eqb z x
def dIndex (ta : DE) (t : DA) : DE := fun δ R => ta δ fun d => t δ fun es => match d, es with
  | .lst ds, [x] => (shL 60 ds = true ∧ sh 60 x = true) ∧ match idx ds x with
    | some j => R (.int (j : Nat))
    | none => False
  | _, _ => False
end
end PD
set_option Elab.async false
set_option linter.all false
set_option maxRecDepth 100000
set_option maxHeartbeats 2000000
namespace PD
open PySem PySem.Spec PyProof.Rows L2
section
variable {X : Cx} {pl : Option (Addr × Addr)} {pins : List (Addr × Obj)} {σ : L2.St} {H1 : Hp} {s1 s2 : Shared}
theorem zipK {P : Program} {w : World} : ∀ {ks : List Key} {us : List Value}, Vals (ks.map kV) us → ∃ L : List (Value × Key), us = L.map (·.1) ∧ ks = L.map (·.2) ∧ ∀ p ∈ L, (mixKind P w).is p.2 p.1 = true
  | [], _, .nil => ⟨[], rfl, rfl, fun p hp => nomatch hp⟩
  | k :: ks, u :: us, .cons r t => by
    obtain ⟨L, e1, e2, h⟩ := zipK (P := P) (w := w) t
    refine ⟨(u, k) :: L, by rw [List.map_cons, ← e1], by rw [List.map_cons, ← e2], fun p hp => ?_⟩
    rcases List.mem_cons.mp hp with e | m
    · rw [e]; exact kV_is r
    · exact h p m
theorem fz_key {K : PySem.W.Frag} {B : Hp} (k : Key) : Fz K pl B (kV k) (kD k) := by
  cases k with
  | inl i => exact .int i
  | inr x => cases x; exact .str _
theorem fz_keys {K : PySem.W.Frag} {B : Hp} : ∀ ks : List Key, FzL K pl B (ks.map kV) (ks.map kD)
  | [] => .nil
  | k :: ks => .cons (fz_key k) (fz_keys ks)
theorem zipT (ok : HOk X.prog X.w H1 s1.heap) : ∀ {vs : List V} {ds : List D} {kk : List (List Key)} {us : List Value}, FzL X.K pl (vis pl H1) vs ds → tkeysD ds = some kk → Vals vs us →
    ∃ L : List (Value × List Key), us = L.map (·.1) ∧ ds = L.map (fun p => tD p.2) ∧ ∀ p ∈ L, p.2 ≠ [] ∧ ∃ b, p.1 = Value.ref b ∧ vis pl H1 b = some (.tup (p.2.map kV)) ∧ KT X.prog X.w s1.heap p.2 b
  | _, _, _, _, .nil, h, .nil => ⟨[], rfl, rfl, fun p hp => nomatch hp⟩
  | _, _, kk, u :: us, .cons (d := d) (ds := ds) f r, h, .cons rv t => by
    unfold tkeysD at h
    cases h1 : tkeyD d with
    | none => rw [h1] at h; cases h
    | some k =>
      cases h2 : tkeysD ds with
      | none => rw [h1, h2] at h; cases h
      | some l =>
        obtain ⟨L, e1, e2, hL⟩ := zipT ok r h2 t
        obtain ⟨b, eb, hb⟩ := tkeyD_ok f h1
        obtain ⟨ed, ne⟩ := tD_of h1
        subst eb
        have eu : u = Value.ref b := rv
        refine ⟨(u, k) :: L, by rw [List.map_cons, ← e1], by rw [List.map_cons, ← e2, ed], fun p hp => ?_⟩
        rcases List.mem_cons.mp hp with e | m
        · rw [e]; exact ⟨ne, b, eu, hb, key_of ok (of_vis hb).2⟩
        · exact hL p m
def refV : Value → V
  | .ref b => .ref b
  | _ => .non
theorem depth_tD (ks : List Key) : (toPy (tD ks)).depth ≤ 1 := by
  show (PyData.tuple (toPyL (ks.map kD))).depth ≤ 1
  simp only [PyData.depth, depth_keys]
  omega
theorem tup_head {ks : List Key} (ne : ks ≠ []) : ∃ x r, toPy (tD ks) = .tuple (x :: r) := by
  cases ks with
  | nil => exact absurd rfl ne
  | cons k ks => exact ⟨toPy (kD k), toPyL (ks.map kD), by simp only [tD, List.map_cons, toPy, toPyL]⟩
theorem alk_all {ds : List D} (h : alkD ds = true) : PySem.W.AllAlike (ds.map toPy) := fun d hd d' hd' => by
  obtain ⟨x, hx, rfl⟩ := List.mem_map.mp hd
  obtain ⟨y, hy, rfl⟩ := List.mem_map.mp hd'
  exact List.all_eq_true.mp (List.all_eq_true.mp h x hx) y hy
theorem prep (ok : HOk X.prog X.w H1 s1.heap) {vs : List V} {ds : List D} {us : List Value} (fl : FzL X.K pl (vis pl H1) vs ds) (rv : Vals vs us) (h1 : hashD ds = true) (h2 : alkD ds = true) :
    ∃ (J : SetI X.prog X.w) (dc : J.κ → D) (wv : Value × J.κ → V) (L0 : List (Value × J.κ)), (∀ j k, dc j = dc k → j = k) ∧ J.bound ≤ 4096 ∧ (∀ h v k, J.is h v k → Reads h v (toPy (dc k)) []) ∧ (∀ k, (toPy (dc k)).depth ≤ 1) ∧ us = L0.map (·.1) ∧ (∀ p ∈ L0, J.is s1.heap p.1 p.2) ∧
      (∀ p ∈ L0, RelV (wv p) p.1 ∧ Fz X.K pl (vis pl H1) (wv p) (dc p.2) ∧ imm (dc p.2) = true) ∧ L0.length < J.bound ∧ PySem.W.AllAlike (L0.map fun p => toPy (dc p.2)) ∧ PySem.W.Sortable (L0.map fun p => toPy (dc p.2)) ∧ ds = L0.map fun p => dc p.2 := by
  unfold hashD at h1
  rw [Bool.or_eq_true, Bool.and_eq_true, Bool.and_eq_true, decide_eq_true_eq, decide_eq_true_eq] at h1
  have hal := alk_all h2
  rcases h1 with ⟨hk, hl⟩ | ⟨hk, hl⟩
  · obtain ⟨ks, ek⟩ := Option.isSome_iff_exists.mp hk
    have e1 := keysD_ok fl ek
    subst e1
    obtain ⟨L, a1, a2, a3⟩ := zipK (P := X.prog) (w := X.w) rv
    have e2 : ds = L.map fun p => kD p.2 := by
      rw [keysD_of ek, a2, List.map_map]
      rfl
    have e3 : (L.map fun p => toPy (kD p.2)) = ds.map toPy := by
      rw [e2, List.map_map]
      rfl
    have hal' : PySem.W.AllAlike (L.map fun p => toPy (kD p.2)) := by rw [e3]; exact hal
    refine ⟨scanI X.prog X.w, kD, fun p => kV p.2, L, fun _ _ => kD_inj, Nat.le_refl _, fun h v k z => reads_key z, fun k => by rw [depth_key k]; exact Nat.zero_le _, a1, a3, fun p hp => ⟨relV_key (a3 p hp), fz_key p.2, imm_kD p.2⟩, ?_, hal', .inr fun d hd => ?_, e2⟩
    · rw [e2, List.length_map] at hl
      exact hl
    · obtain ⟨p, hp, rfl⟩ := List.mem_map.mp hd
      cases p.2 with
      | inl i => exact ⟨(fun z => nomatch z), fun xs z => nomatch z⟩
      | inr x => exact ⟨(fun z => nomatch z), fun xs z => nomatch z⟩
  · obtain ⟨kk, ek⟩ := Option.isSome_iff_exists.mp hk
    obtain ⟨L, a1, a2, a3⟩ := zipT ok fl ek rv
    have e3 : (L.map fun p => toPy (tD p.2)) = ds.map toPy := by
      rw [a2, List.map_map]
      rfl
    have hal' : PySem.W.AllAlike (L.map fun p => toPy (tD p.2)) := by rw [e3]; exact hal
    refine ⟨tabI X.prog X.w, tD, fun p => refV p.1, L, fun _ _ => tD_inj, (by decide : (64 : Nat) ≤ 4096), ?_, depth_tD, a1, fun p hp => ?_, fun p hp => ?_, ?_, hal', .inl fun d hd => ?_, a2⟩
    · rintro h v k ⟨b, rfl, z⟩
      exact reads_tup z
    · obtain ⟨_, b, e, _, z⟩ := a3 p hp
      exact ⟨b, e, z⟩
    · obtain ⟨ne, b, e, hb, z⟩ := a3 p hp
      obtain ⟨v, ks⟩ := p
      have e : v = .ref b := e
      subst e
      exact ⟨rfl, .tup (.inl hb) (fz_keys ks), immL_kD ks⟩
    · rw [a2, List.length_map] at hl
      exact hl
    · obtain ⟨p, hp, rfl⟩ := List.mem_map.mp hd
      obtain ⟨ne, _⟩ := a3 p hp
      exact tup_head ne
def dSortSet (ta : DE) : DE := fun δ R => ta δ fun d => fSortSet d R
theorem pe_sortedSet {M : Nat → Bool} {a : Expr} {ta : DE} {p p2 q pos : Pos} (hc : X.calm = true) (hu : X.A.units + 64 < cLine) (hg : Gl X "sorted") (hm : X.mg "sorted" = none) (hg2 : Gl X "set") (hm2 : X.mg "set" = none) (ha : PE X a (lift ⟨X.K, pl, M⟩ .e ta))
    (na : starEach [a] X.env = (false, eval a X.env) :: starEach [] X.env := by rfl) : PE X (.Call (.Name "sorted" p) [.Call (.Name "set" p2) [a] [] q] [] pos) (lift ⟨X.K, pl, M⟩ .n (dSortSet ta)) := by
  refine ⟨fun pins s σ H Q I ⟨H0, F, δ, R, S, h, qq⟩ => ?_⟩
  refine Call_ (ld_blt I hg hm boot_sorted ?_)
  refine PyProof.Rows.callWith_builtin1 (PyProof.Rows.args_cons ?_ rfl) rfl rfl
  refine Call_ (ld_blt I hg2 hm2 PyProof.Rows.boot_set ?_)
  refine PyProof.Rows.callWith_type1 (PyProof.Rows.args_cons (thn (ha.run pins s σ H (fun x H1 => Xt pl H H1 ∧ ∃ d, fSortSet d R ∧ Fz X.K pl (vis pl H1) x d) I ⟨H0, F, δ, _, S, h, fun d v H' r e f => ⟨e, d, r, f⟩⟩) fun v s1 ⟨x, H1, I1, r1, e1, d, hd, f⟩ => PyProof.Rows.args_nil ?_) na) na rfl
  have po : PoolOk pl H1 := e1.pool S.pol
  match d, hd, f with
  | .lst ds, hd, .lst (a := l) (vs := vs) hl fl =>
    cases r1
    obtain ⟨its, rv, pL, hz⟩ := I1.list (.inl (.inl (of_vis hl).2))
    obtain ⟨J, dc, wv, L0, b1, b2, b3, b4, b5, b6, b7, b8, b9, b10, b11⟩ := prep I1.hok fl rv hd.1 hd.2.1
    refine call_set_listJ J L0 (I1.ok.hd hc) pL.isList (by simpa using b5) b6 b8 (by omega) fun h' tk L Z g kp => ?_
    refine PyProof.Rows.args_nil ?_
    refine sortSet_fin J dc wv b1 b2 b3 b4 hc hu I1 po L0 b7 b8 b9 b10 (fun rs v H' u s' nd mem pw ex fz JJ rv' => ?_) Z g kp
    exact ⟨v, H', JJ, rv', qq _ v H' (hd.2.2 rs nd (fun d => by rw [mem d, ← b11]) pw) (e1.trans ex) (fz.mono (nw_tail e1 ex))⟩
  | .tup ds, hd, .tup (a := l) (vs := vs) hl fl =>
    cases r1
    obtain ⟨its, rv, pT, hz⟩ := I1.tuple (show SqT X.K H1 l vs from (tupAt_mono (fun a o h => (of_vis h).2) hl).sq)
    obtain ⟨J, dc, wv, L0, b1, b2, b3, b4, b5, b6, b7, b8, b9, b10, b11⟩ := prep I1.hok fl rv hd.1 hd.2.1
    refine call_set_tupleJ J L0 (I1.ok.hd hc) pT (by simpa using b5) b6 b8 (by omega) fun h' tk L Z g kp => ?_
    refine PyProof.Rows.args_nil ?_
    refine sortSet_fin J dc wv b1 b2 b3 b4 hc hu I1 po L0 b7 b8 b9 b10 (fun rs v H' u s' nd mem pw ex fz JJ rv' => ?_) Z g kp
    exact ⟨v, H', JJ, rv', qq _ v H' (hd.2.2 rs nd (fun d => by rw [mem d, ← b11]) pw) (e1.trans ex) (fz.mono (nw_tail e1 ex))⟩
end
end PD
set_option Elab.async false
set_option linter.all false
set_option maxRecDepth 100000
set_option maxHeartbeats 2000000
namespace PD
open PySem PySem.Spec PyProof.Rows L2 PpSet
/-! ### sets of keys made by comprehensions -/
def addK (L : List Key) (k : Key) : List Key := if (L.any fun j => decide (j = k)) = true then L else L ++ [k]
theorem any_key {L : List Key} {k : Key} : (L.any fun j => decide (j = k)) = true ↔ k ∈ L := by simp [List.any_eq_true]
def SetLO (P : Program) (w : World) (a : Addr) (L : List Key) : HO := .ext fun h => ∃ M : List (Value × Key), (M.map (·.2)).Perm L ∧ (scanI P w).st h a M
theorem setLO_new {P : Program} {w : World} {H : Hp} {h : Heap} {a : Addr} {L : List Key} (R : ∃ M : List (Value × Key), (M.map (·.2)).Perm L ∧ (scanI P w).st h a M) : ObjOk P w H h a (SetLO P w a L) := by
  obtain ⟨M, pm, z⟩ := R
  have ⟨es, ep, t, Z⟩ := z
  obtain ⟨o, ho, _⟩ := Z.ob
  refine ⟨⟨M, pm, z⟩, ⟨o, ho⟩, fun h1 h2 p k => ?_⟩
  obtain ⟨M', pm', z'⟩ := p
  exact ⟨M', pm', (scanI P w).st_keep z' k fun p hp => show (mixKind P w).is p.2 p.1 = true from (scanI P w).st_is z' p hp⟩
theorem setLO_fresh (P : Program) (w : World) {h : Heap} : ∃ M : List (Value × Key), (M.map (·.2)).Perm [] ∧ (scanI P w).st (h.push (newSet w)) h.objs.size M := ⟨[], .refl _, (scanI P w).fresh (Heap.get?_push_size _ rfl)⟩
theorem setLO_get {X : Cx} {pins : List (Addr × Obj)} {σ : L2.St} {H : Hp} {s : Shared} {a : Addr} {L : List Key} (I : Inv X pins σ H s) (ha : H a = some (SetLO X.prog X.w a L)) : ∃ M : List (Value × Key), (M.map (·.2)).Perm L ∧ (scanI X.prog X.w).st s.heap a M := (I.hok a _ ha).1
theorem addK_perm {M M' : List (Value × Key)} {L : List Key} {k : Key} {v : Value} (pm : (M.map (·.2)).Perm L) (c1 : k ∈ M.map (·.2) → M' = M) (c2 : k ∉ M.map (·.2) → M'.Perm ((v, k) :: M)) : (M'.map (·.2)).Perm (addK L k) := by
  unfold addK
  split
  · next h => rw [c1 (pm.mem_iff.mpr (any_key.mp h))]; exact pm
  · next h =>
    have p1 := (c2 fun z => h (any_key.mpr (pm.mem_iff.mp z))).map (·.2)
    rw [List.map_cons] at p1
    exact (p1.trans (pm.cons k)).trans (List.perm_append_singleton k L).symm
theorem addL_ok {X : Cx} {pins : List (Addr × Obj)} {σ : L2.St} {H : Hp} {s : Shared} {E : Value → Shared → Prop} {D : Addr} {L : List Key} {k : Key} {u : Value} {Q : Value → Shared → Prop} (I : Inv X pins σ H s) (r : RelV (kV k) u) (hD : H D = some (SetLO X.prog X.w D L)) (room : L.length + 1 < scanBound)
    (h : ∀ s', Inv X pins σ (upd H D (SetLO X.prog X.w D (addK L k))) s' → Q .none s') : wpAny (model X.prog X.w) X.A (call (.builtin "set.add") [.ref D, u]) Q E s := by
  obtain ⟨M, pm, z⟩ := setLO_get I hD
  obtain ⟨es, ep, t, Z⟩ := id z
  obtain ⟨o, ho, hx, hd⟩ := Z.ob
  refine wpAny_call_entry F.slot_set_add ⟨o, ho, hx.1⟩ F.entry_set_add ?_ (F.args_set_add_2 _ _)
  unfold Builtin.«set.add» Builtin.Frozenset.oneOther
  simp only [List.isEmpty_nil, bind_assoc]
  unfold Builtin.Frozenset.addrOf
  refine wpAny_bind (wpAny_pure ?_)
  try dsimp only
  refine wpAny_bind (wpAny_pure ?_)
  try dsimp only
  refine wpAny_bind ?_
  unfold setAdd
  refine wpAny_holding ?_
  refine wpAny_bind ((mixKind X.prog X.w).pyHash (kV_is r) ?_)
  refine scan_add (s := { s with toks := s.toks + 1 }) Z (kV_is r) (by have := pm.length_eq; rw [List.length_map] at this; omega) fun b h' M' es' ep' t' sb Z' c1 c2 => ?_
  show wpAny _ _ (ret Value.none) _ _ _
  have new : ∃ N : List (Value × Key), (N.map (·.2)).Perm (addK L k) ∧ (scanI X.prog X.w).st h' D N := ⟨M', addK_perm pm c1 c2, es', ep', t', Z'⟩
  have he : ∃ u, h'.get? D = some u := by
    obtain ⟨o, ho, _⟩ := Z'.ob
    exact ⟨o, ho⟩
  exact wpAny_pure ⟨_, rfl, h _ (I.write (e := D) (t' := s.toks + 1) (by rw [hD]; trivial) (.inl rfl) (fun b u hb hu => (sb.2 b hb).trans hu) he (setLO_new new))⟩
section
variable {X : Cx}
/-- {elt for target in iter if ..}, elt a key -/
def tScK (P : Program) (w : World) (wi : TI) (g : TG) (tt : TT) (te : TE) (vs : List Nat) : TE := fun σ H Q => wi σ H fun J H1 => ∀ D, H1 D = none → ∃ W : Nat → Nat → Hp → Prop, (∃ m, W 0 m (upd H1 D (SetLO P w D []))) ∧ ∀ i m H, W i m H →
  (J.stop i H ∧ Q (.ref D) H) ∨ (J.go i H ∧ ∃ Nx : Hp → Prop, (∀ H', Nx H' → ∃ m', m' < m ∧ W (i + 1) m' H') ∧ ∀ x H', J.yld i H x H' → g x (wipe σ vs) H' fun σ2 H2 => wipe σ2 vs = wipe σ vs ∧ tt σ2 H2 fun b H3 =>
    if b = true then te σ2 H3 fun y H4 => ∃ (c : Key) (L : List Key), y = kV c ∧ H4 D = some (SetLO P w D L) ∧ L.length + 1 < scanBound ∧ Nx (upd H4 D (SetLO P w D (addK L c))) else Nx H3)
theorem scK_core {pins : List (Addr × Obj)} {s : Shared} {σ : L2.St} {H : Hp} {Q : VK} {elt tg iter : Expr} {ifs : List Expr} {scope : Scope} {own : List (PySem.Str × Nat)} {pos pos' : Pos} {wi : TI} {g : TG} {tt : TT} {te : TE} {use : Option (Value → Sem Unit)} {Qf : Value → Shared → Prop}
    (hc : X.calm = true) (hN : X.N.Nodup) (I : Inv X pins σ H s) (hi : PI X tg iter wi) (ok : BlkOk X.N X.env.scope scope own)
    (hg : ∀ (s : Shared) (H : Hp) (C : Addr) (cl : List (PySem.Str × Addr)) (fp : List Addr), PG (X.blk s H scope (compEnvC scope cl C X.env) fp) tg g) (ht : ∀ (s : Shared) (H : Hp) (C : Addr) (cl : List (PySem.Str × Addr)) (fp : List Addr), PTs (X.blk s H scope (compEnvC scope cl C X.env) fp) ifs tt)
    (he : ∀ (s : Shared) (H : Hp) (C : Addr) (cl : List (PySem.Str × Addr)) (fp : List Addr), PE (X.blk s H scope (compEnvC scope cl C X.env) fp) elt te) (hs : ∀ x, foldedSetIterable iter X.env x = pure x)
    (h : tScK X.prog X.w wi g tt te (own.map (·.2)) σ H Q)
    (hRR : ∀ D C s' m H', Inv X pins σ H' s' → Q (.ref D) H' → s'.heap.Ns C m → FpOk X pins H' C → compPost (model X.prog X.w) X.A X.xe use Qf (.ref D) C (.ok .next) s') :
    wpAny (model X.prog X.w) X.A (comprehension (.SetComp elt [⟨tg, iter, ifs, 0⟩] scope pos) scope X.env pos' (PySem.newSet (.type "set")) false (eval iter X.env) use) Qf X.xe s := by
  have hfr : ∀ y ∈ scope.names, y.2 = .free → ∃ c, X.env.cells.lookup y.1 = some c := fun y hy e => by
    rcases ok.free y hy e with k | k
    · exact I.ok.has _ (.inl k)
    · exact I.ok.has _ (.inr k)
  refine wpAny_comprehension_free (use := use) rfl hs (closure_ok hfr) ok.kind (fun y hy e => by rw [ok.uniq y hy, e])
    (thn (hi.run pins s σ H _ I h) fun xv s1 hx => thn hx fun itv s2 h2 => ?_)
  obtain ⟨it, fp, tn, J, H2, e, I2, T, st2, f2, q⟩ := h2
  subst e
  refine newSet_ok (newEnv_comp ?_)
  generalize hD : s2.heap.objs.size = D
  have dn0 : H2 D = none := I2.hok.fresh (Nat.le_of_eq hD)
  obtain ⟨W, ⟨m0, w0⟩, turn⟩ := q D dn0
  -- the new list
  generalize hs3 : ({ s2 with heap := s2.heap.push { cls := .type "set", dict := none, data := .set #[] 0 (.fresh 0 0 (!X.w.params.followText "set-order")) } } : Shared) = s3
  have I3 : Inv X pins σ (upd H2 D (SetLO X.prog X.w D [])) s3 := by
    rw [← hs3]
    refine I2.laid (t' := s2.toks) (fun b o e => Heap.get?_push_of_some _ e) (Nat.le_of_eq hD) ?_
    rw [← hD]
    exact setLO_new (setLO_fresh X.prog X.w)
  have h3 : s3.heap = s2.heap.push { cls := .type "set", dict := none, data := .set #[] 0 (.fresh 0 0 (!X.w.params.followText "set-order")) } := by rw [← hs3]
  have sz : ∀ b ∈ fp, b < s2.heap.objs.size := fun b hb => by
    obtain ⟨o, e, _⟩ := T.obj _ _ st2 b hb
    exact Heap.lt_size e
  have f3 : ∀ b ∈ fp, FpOk X pins (upd H2 D (SetLO X.prog X.w D [])) b ∧ b < s3.heap.objs.size := fun b hb => by
    have hlt := sz b hb
    refine ⟨⟨?_, (f2 b hb).2⟩, by rw [h3, Heap.size_push]; exact Nat.lt_succ_of_lt hlt⟩
    rw [upd_ne (by rw [← hD]; exact Nat.ne_of_lt hlt)]
    exact (f2 b hb).1
  have st3 : tn 0 s3.heap := T.keep _ _ _ st2 fun b _ o e => by rw [h3]; exact Heap.get?_push_of_some _ e
  have I4 := block_start I3 ok hN f3
  have pg := hg s3 (upd H2 D (SetLO X.prog X.w D [])) s3.heap.objs.size (cellsFrom (s3.heap.objs.size + 1) scope.names (cloFrom X.env.cells scope.names [])) fp
  have pt := ht s3 (upd H2 D (SetLO X.prog X.w D [])) s3.heap.objs.size (cellsFrom (s3.heap.objs.size + 1) scope.names (cloFrom X.env.cells scope.names [])) fp
  have pe := he s3 (upd H2 D (SetLO X.prog X.w D [])) s3.heap.objs.size (cellsFrom (s3.heap.objs.size + 1) scope.names (cloFrom X.env.cells scope.names [])) fp
  show codeAny _ _ (.compStart (.SetComp elt [⟨tg, iter, ifs, 0⟩] scope pos) 0 (.ref it) (.ref D) (compEnvC scope (cellsFrom (s3.heap.objs.size + 1) scope.names (cloFrom X.env.cells scope.names [])) s3.heap.objs.size X.env)) (compPost (model X.prog X.w) X.A X.xe use Qf (.ref D) s3.heap.objs.size) { s3 with heap := pushCells (s3.heap.push { cls := .type "dict", data := .dict #[] }) scope.names }
  have nfp : ∀ b ∈ fp, (upd H2 D (SetLO X.prog X.w D [])) b = none := fun b hb => (f3 b hb).1.1
  generalize hce : compEnvC scope (cellsFrom (s3.heap.objs.size + 1) scope.names (cloFrom X.env.cells scope.names [])) s3.heap.objs.size X.env = ce at I4 pg pt pe ⊢
  have cL : ce.locals = s3.heap.objs.size := by subst hce; rfl
  generalize hH3 : upd H2 D (SetLO X.prog X.w D []) = H3 at I3 I4 pg pt pe w0 nfp f3
  generalize hs4 : ({ s3 with heap := pushCells (s3.heap.push { cls := .type "dict", data := .dict #[] }) scope.names } : Shared) = s4 at I4 ⊢
  have st4 : tn 0 s4.heap := T.keep _ _ _ st3 fun b _ o e => by rw [← hs4]; exact pushCells_keeps _ _ _ _ (Heap.get?_push_of_some _ e)
  have stt : ∀ {σ' : L2.St} {H' : Hp} {s' : Shared}, Inv (X.blk s3 H3 scope ce fp) [] σ' H' s' → (∀ b ∈ fp, H' b = none) → ∀ b ∈ fp, FpOk (X.blk s3 H3 scope ce fp) [] H' b := fun {σ' H' s'} I' hn b hb =>
    ⟨hn b hb, (I'.ok.exf b hb).1, I'.ok.exfs b hb, .inl hb, fun x c e => (I'.ok.exf b hb).2 x c e, fun p hp => absurd (show p ∈ ([] : List (Addr × Obj)) ++ [] from hp) (by simp)⟩
  have loop : codeAny (model X.prog X.w) X.A (.compLoop (.SetComp elt [⟨tg, iter, ifs, 0⟩] scope pos) 0 (.ref it) (.ref D) ce) (compPost (model X.prog X.w) X.A X.xe use Qf (.ref D) s3.heap.objs.size) s4 := by
    refine compLoopS_any (fun n s' => ∃ i H', Inv (X.blk s3 H3 scope ce fp) [] (wipe σ (own.map (·.2))) H' s' ∧ tn i s'.heap ∧ (∀ b ∈ fp, H' b = none) ∧ W i n H') ?_ m0 ⟨0, H3, I4, st4, nfp, w0⟩
    rintro n s5 ⟨i, H5, I5, st5, n5, w5⟩
    rcases turn i n H5 w5 with ⟨stop, qq⟩ | ⟨go, Nx, hNx, step⟩
    · have td := T.done (X.blk s3 H3 scope ce fp) rfl rfl rfl hc i [] s5 _ H5 (fun _ _ => False) I5 (stt I5 n5) st5 stop
      refine thnF td fun r s6 ⟨hr, I6⟩ => ?_
      subst hr
      -- back in the def's context
      have I7 : Inv X pins σ H5 s6 := I3.call' (ch := fp) I6.os I6.base I6.hok I6.bare fun b hb => ⟨(f3 b hb).1.2.2.2.1, (f3 b hb).1.2.1, (f3 b hb).1.2.2.2.2.1, (f3 b hb).1.2.2.2.2.2⟩
      have nC : H5 s3.heap.objs.size = none := by
        have z : H5 ce.locals = none := I6.free
        rw [cL] at z
        exact z
      obtain ⟨m, hn, _⟩ := I6.loc
      have hn : s6.heap.Ns ce.locals m := hn
      rw [cL] at hn
      exact hRR D s3.heap.objs.size s6 m H5 I7 qq hn (I3.fpOk (Nat.le_refl _) nC)
    · have ti := T.item (X.blk s3 H3 scope ce fp) rfl rfl rfl hc i [] s5 _ H5 (fun _ _ => False) I5 (stt I5 n5) st5 go
      refine thnF ti fun r s6 ⟨u, hr, h6⟩ => ?_
      subst hr
      refine thnF h6 fun _ s7 ⟨x, H7, I7, r7, y7, st7, n7⟩ => ?_
      have I7' := I7.pinned (stt I7 n7) (T.obj _ _ st7)
      refine thnF (pg.run _ s7 _ H7 x u _ I7' r7 (step x H7 y7)) fun _ s8 ⟨σ8, H8, I8, hw8, q8⟩ => ?_
      refine thnF (pt.run _ s8 σ8 H8 _ I8 q8) fun b s9 ⟨H9, I9, q9⟩ => ?_
      -- the turn's end
      have fin : ∀ {s' : Shared} {H' : Hp}, Inv (X.blk s3 H3 scope ce fp) ([] ++ pinsAt fp s7.heap) σ8 H' s' → Nx H' → ∃ m, m < n ∧ ∃ i H', Inv (X.blk s3 H3 scope ce fp) [] (wipe σ (own.map (·.2))) H' s' ∧ tn i s'.heap ∧ (∀ b ∈ fp, H' b = none) ∧ W i m H' := fun {s' H'} I' nx => by
        obtain ⟨m', hm, w'⟩ := hNx H' nx
        have pin' : ∀ b ∈ fp, ∀ o, s7.heap.get? b = some o → s'.heap.get? b = some o ∧ H' b = none := fun b hb o e =>
          let z := I'.pin (b, o) (List.mem_append_right _ (List.mem_append_right _ (mem_pinsAt hb e)))
          ⟨z.1, z.2.1⟩
        have hl : (wipe σ (own.map (·.2))).length = σ8.length := by rw [← hw8, wipe_length]
        refine ⟨m', hm, i + 1, H', (I'.unpinned (pins := [])).weak hl (fun j v e => ?_), T.keep _ _ _ st7 fun b hb o e => (pin' b hb o e).1, fun b hb => ?_, w'⟩
        · rw [← hw8] at e
          exact (wipe_some e).1
        · obtain ⟨o, e, _⟩ := T.obj _ _ st7 b hb
          exact (pin' b hb o e).2
      cases b with
      | false =>
        simp only [Bool.false_eq_true, if_false] at q9 ⊢
        exact fin I9 q9
      | true =>
        simp only [if_true] at q9 ⊢
        refine thnF (pe.run _ s9 σ8 H9 _ I9 q9) fun z s10 ⟨yv, H10, I10, r10, cb, L0, ey, hD10, hq10, nx⟩ => ?_
        subst ey
        exact addL_ok (X := X.blk s3 H3 scope ce fp) I10 r10 hD10 hq10 fun s11 I11 => fin I11 nx
  exact codeAny_compStart_set loop (T.self X.A 0 _ _ _ st4 loop)
/-- as a value -/
theorem pe_scK {elt tg iter : Expr} {ifs : List Expr} {scope : Scope} {own : List (PySem.Str × Nat)} {pos : Pos} {wi : TI} {g : TG} {tt : TT} {te : TE} (hc : X.calm = true) (hN : X.N.Nodup) (hi : PI X tg iter wi) (ok : BlkOk X.N X.env.scope scope own)
    (hg : ∀ (s : Shared) (H : Hp) (C : Addr) (cl : List (PySem.Str × Addr)) (fp : List Addr), PG (X.blk s H scope (compEnvC scope cl C X.env) fp) tg g) (ht : ∀ (s : Shared) (H : Hp) (C : Addr) (cl : List (PySem.Str × Addr)) (fp : List Addr), PTs (X.blk s H scope (compEnvC scope cl C X.env) fp) ifs tt)
    (he : ∀ (s : Shared) (H : Hp) (C : Addr) (cl : List (PySem.Str × Addr)) (fp : List Addr), PE (X.blk s H scope (compEnvC scope cl C X.env) fp) elt te) (hs : ∀ x, foldedSetIterable iter X.env x = pure x := by intro _; rfl) :
    PE X (.SetComp elt [⟨tg, iter, ifs, 0⟩] scope pos) (tScK X.prog X.w wi g tt te (own.map (·.2))) := by
  refine ⟨fun pins s σ H Q I h => ?_⟩
  rw [eval_SetComp]
  refine scK_core hc hN I hi ok hg ht he hs h fun D C s' m H' I' q hn f => ⟨m, hn, fun h'' sb => ?_⟩
  obtain ⟨f0, f1, f2, f3, f4, f5⟩ := f
  exact ⟨.ref D, H', I'.turned (t' := s'.toks) (fun b o hb e => (sb.2 b hb).trans e) f0 f1 f3 f4 f5, rfl, q⟩
end
end PD
set_option Elab.async false
set_option linter.all false
set_option maxRecDepth 100000
set_option maxHeartbeats 2000000
namespace PD
open PySem PySem.Spec PyProof.Rows L2
/-- sorted(a set of keys made by a comprehension) -/
def rSortedK (P : Program) (w : World) : List V → Hp → VK → Prop := fun vs H Q => ∃ (a : Addr) (L : List Key), vs = [.ref a] ∧ H a = some (SetLO P w a L) ∧ alkD (L.map kD) = true ∧ L.length < 4096 ∧
  ∀ (rs : List Key) (p : Addr), rs.Nodup → (∀ k, k ∈ rs ↔ k ∈ L) → (rs.map kD).Pairwise (fun a b => leD a b = true) → rs.length ≤ sizeLine → H p = none → Q (.ref p) (upd H p (.lst (rs.map kV)))
theorem vals_keys {P : Program} {w : World} : ∀ {L : List (Value × Key)}, (∀ p ∈ L, (mixKind P w).is p.2 p.1 = true) → Vals ((L.map (·.2)).map kV) (L.map (·.1))
  | [], _ => .nil
  | p :: L, h => .cons (relV_key (h p (List.mem_cons_self ..))) (vals_keys fun q hq => h q (List.mem_cons_of_mem _ hq))
theorem cr_sortedK {X : Cx} (hc : X.calm = true) (hu : X.A.units + 64 < cLine) : CallR X (.builtin "sorted") (rSortedK X.prog X.w) := by
  intro pins s σ H vs us Q I r h
  obtain ⟨a, L, rfl, ha, hal, hlen, q⟩ := h
  obtain ⟨M, pm, Z⟩ := setLO_get I ha
  rw [Vals.ref1 r]
  have hML : M.length = L.length := by have := pm.length_eq; rwa [List.length_map] at this
  have mem : ∀ p ∈ M, p.2 ∈ L := fun p hp => pm.mem_iff.mp (List.mem_map.mpr ⟨p, hp, rfl⟩)
  have hal' := alk_all hal
  refine sorted_setJ (scanI X.prog X.w) (fun k => toPy (kD k)) Z (I.ok.hd hc) (fun h' k p hp => reads_key ((scanI X.prog X.w).st_is Z p hp)) ?_ (.inr fun d hd => ?_) (fun p _ => by have := depth_key p.2; show X.A.units + 2 + (toPy (kD p.2)).depth < cLine; omega) fun s' qa out c (L' : List (Value × Key)) k gs os hq hget hout (pm2 : L'.Perm M) pw => ?_
  · intro d hd d' hd'
    obtain ⟨p, hp, rfl⟩ := List.mem_map.mp hd
    obtain ⟨p', hp', rfl⟩ := List.mem_map.mp hd'
    exact hal' _ (List.mem_map.mpr ⟨kD p.2, List.mem_map.mpr ⟨p.2, mem p hp, rfl⟩, rfl⟩) _ (List.mem_map.mpr ⟨kD p'.2, List.mem_map.mpr ⟨p'.2, mem p' hp', rfl⟩, rfl⟩)
  · obtain ⟨p, hp, rfl⟩ := List.mem_map.mp hd
    have : ∀ k : Key, toPy (kD k) ≠ .none ∧ ∀ xs, toPy (kD k) ≠ .tuple xs := fun k => by
      cases k with
      | inl i => exact ⟨(fun z => nomatch z), fun xs z => nomatch z⟩
      | inr x => exact ⟨(fun z => nomatch z), fun xs z => nomatch z⟩
    exact this p.2
  have hn : H qa = none := I.hok.fresh hq
  have isL : ∀ p ∈ L', (mixKind X.prog X.w).is p.2 p.1 = true := fun p hp => (scanI X.prog X.w).st_is Z p (pm2.mem_iff.mp hp)
  have hv : Vals ((L'.map (·.2)).map kV) out := by
    rw [hout]
    exact vals_keys isL
  have hlen2 : ((L'.map (·.2)).map kV).length ≤ sizeLine := by
    rw [List.length_map, List.length_map, pm2.length_eq, hML, sizeLine_eq]
    omega
  have JJ : Inv X pins σ (upd H qa (.lst ((L'.map (·.2)).map kV))) { s with heap := s'.heap, gens := s'.gens, drawn := s'.drawn, toks := s'.toks } :=
    Inv.call (s := s) (ch := []) I (Un.laid k hq hn) (I.hok.laid k hq ⟨hlen2, out, c, hv, hget⟩) (by rw [gs]; exact I.bare) (fun _ z => nomatch z)
  have e : s' = { s with heap := s'.heap, gens := s'.gens, drawn := s'.drawn, toks := s'.toks } := by
    cases s'
    cases s
    cases os
    rfl
  rw [e]
  have ndM : (M.map (fun p : Value × Key => p.2)).Nodup := (scanI X.prog X.w).st_nd Z
  have nd : (L'.map (fun p : Value × Key => p.2)).Nodup := (pm2.map (fun p : Value × Key => p.2)).nodup_iff.mpr ndM
  refine ⟨.ref qa, _, JJ, rfl, q (L'.map (·.2)) qa nd (fun k => ((pm2.map (·.2)).mem_iff).trans pm.mem_iff) ?_ (by rw [List.length_map] at hlen2; exact hlen2) hn⟩
  rw [List.map_map]
  refine List.pairwise_map.mpr (pw.imp fun {x y} h => ?_)
  rw [PySem.W.dataLe_eq] at h
  exact h
def scD (tg : DG) (tt : DTt) (te : DE) (δ : DEnv) : List D → List Key → (List Key → Prop) → Prop
  | [], acc, R => R acc
  | x :: xs, acc, R => tg x δ fun δ2 => tt δ2 fun b => if b = true then te δ2 fun y => ∃ k, keyD y = some k ∧ acc.length + 1 < 4096 ∧ scD tg tt te δ xs (addK acc k) R else scD tg tt te δ xs acc R
def dSc (b : Bool) (ti : DA) (tg : DG) (tt : DTt) (te : DE) (vs : List Nat) : DE := fun δ R => ti δ fun xs => xs.length ≤ sizeLine ∧ (b = true → immL xs = true) ∧ scD tg tt te (wipeD δ vs) xs [] fun ks => alkD (ks.map kD) = true ∧ ks.length < 4096 ∧
  ∀ rs : List Key, rs.Nodup → (∀ k, k ∈ rs ↔ k ∈ ks) → (rs.map kD).Pairwise (fun a b => leD a b = true) → R (.lst (rs.map kD))
section
variable {C : Cn} {H0 H H1 H2 H' : Hp} {F : Nat → List Addr} {σ : L2.St} {δ : DEnv} {Q : VK} {tg : DG} {P : Program} {w : World}
structure ScI (P : Program) (w : World) (C : Cn) (F : Nat → List Addr) (σw : L2.St) (δw : DEnv) (Lp : Addr) (H1 H' : Hp) (acc : List Key) : Prop where
  sr : ∃ H0, SR C H0 F σw H' δw
  mem : Lp ∈ F (σw.length + Lp)
  sub : ∀ a o, ¬ Hid C.pl a → H1 a = some o → H' a = some o
  set : H' Lp = some (SetLO P w Lp acc)
theorem ScI.ext {σw : L2.St} {δw : DEnv} {Lp : Addr} {acc : List Key} (I : ScI P w C F σw δw Lp H1 H acc) (e : Xt C.pl H H') : ScI P w C F σw δw Lp H1 H' acc := by
  obtain ⟨H0, S⟩ := I.sr
  exact ⟨⟨H0, S.ext e⟩, I.mem, fun a o n h => e.sub a o n (I.sub a o n h), e.sub Lp _ (S.dom _ Lp I.mem).1 I.set⟩
theorem ScI.add {σw : L2.St} {δw : DEnv} {Lp : Addr} {acc acc' : List Key} (I : ScI P w C F σw δw Lp H1 H acc) (nD : H1 Lp = none) : ScI P w C F σw δw Lp H1 (upd H Lp (SetLO P w Lp acc')) acc' := by
  obtain ⟨H0, S⟩ := I.sr
  exact ⟨⟨H0, S.relay (Nat.le_add_right _ _) I.mem rfl⟩, I.mem, fun a o n h => by rw [upd_ne (fun z : a = Lp => by rw [z, nD] at h; cases h)]; exact I.sub a o n h, upd_same⟩
theorem ScI.start (S : SR C H0 F σ H1 δ) {Lp : Addr} (nD : H1 Lp = none) (vs : List Nat) : ScI P w C (pseu F (σ.length + Lp) Lp) (L2.wipe σ vs) (wipeD δ vs) Lp H1 (upd H1 Lp (SetLO P w Lp [])) [] :=
  ⟨⟨H0, (S.lay nD rfl).wipe vs⟩, by rw [wipe_length]; exact pseu_mem.mpr (.inl ⟨rfl, rfl⟩), fun a o n h => by rw [upd_ne (ne_of_none h nD)]; exact h, upd_same⟩
theorem keyV_of {K : PySem.W.Frag} {pl : Option (Addr × Addr)} {B : Hp} {v : V} {y : D} {k : Key} (f : Fz K pl B v y) (h : keyD y = some k) : v = kV k := keyD_ok f h
theorem cv_sc {ti : DA} {tt : DTt} {te : DE} {vs : List Nat} (z : Zn) : lift C .n (dSc (zb z) ti tg tt te vs) σ H Q → tCB (rSortedK P w) (tCons (tScK P w (liftI C z ti) (liftG C (· ∈ vs) tg) (liftT C tt) (lift C .e te) vs) tNil) σ H Q := fun ⟨H0, F, δ, R, S, h, q⟩ =>
  ⟨H0, F, δ, _, S, h, fun xs J H1 r1 e1 ok Lp nD => by
    have S1 := S.ext e1
    refine ⟨fun i m H' => m = xs.length - i ∧ i ≤ xs.length ∧ ∃ acc, ScI P w C (pseu F (σ.length + Lp) Lp) (L2.wipe σ vs) (wipeD δ vs) Lp H1 H' acc ∧ scD tg tt te (wipeD δ vs) (xs.drop i) acc _, ⟨_, rfl, Nat.zero_le _, [], ScI.start S1 nD vs, r1.2.2⟩, ?_⟩
    rintro i m H' ⟨rfl, hi, acc, I, hl⟩
    have okB : Sub (reg z F C.pl H H1) H' := fun a o h => by
      obtain ⟨n, h⟩ := of_vis (reg_vis e1 a o h)
      exact I.sub a o n h
    obtain ⟨o1, o2⟩ := ok i H' okB
    by_cases hlt : i < xs.length
    · have hx : xs[i]? = some xs[i] := List.getElem?_eq_getElem hlt
      obtain ⟨g, y⟩ := o2 _ hx
      rw [drop_cons hx] at hl
      refine .inr ⟨g, fun H'' => ∃ acc', ScI P w C (pseu F (σ.length + Lp) Lp) (L2.wipe σ vs) (wipeD δ vs) Lp H1 H'' acc' ∧ scD tg tt te (wipeD δ vs) (xs.drop (i + 1)) acc' _, fun H'' ⟨acc', h2, h3⟩ => ⟨xs.length - (i + 1), by omega, rfl, hlt, acc', h2, h3⟩, fun x H2 yl => ?_⟩
      obtain ⟨e2, fx⟩ := y x H2 yl
      have I2 := I.ext e2
      obtain ⟨H0', Sw⟩ := I.sr
      have hB : Sub (msk F C.pl H1) (msk (pseu F (σ.length + Lp) Lp) C.pl H2) := fun a o h => by
        obtain ⟨n, off, h⟩ := of_msk h
        refine msk_of n (fun j z => ?_) (e2.sub a o n (I.sub a o n h))
        rcases pseu_mem.mp z with ⟨_, rfl⟩ | z
        · rw [nD] at h; cases h
        · exact off j z
      have jv : ∀ {B : Hp}, Sub B (vis C.pl H1) → Sub (jn C.pl B H' H2) (vis C.pl H2) := fun {B} hb a o h => by
        unfold jn at h
        cases q : B a with
        | none => rw [q] at h; exact nw_vis e2 a o h
        | some u =>
          rw [q] at h; cases h
          obtain ⟨n, q⟩ := of_vis (hb a _ q)
          exact vis_of n (e2.sub a _ n (I.sub a _ n q))
      have fx' : Fz C.K C.pl (msk (pseu F (σ.length + Lp) Lp) C.pl H2) x xs[i] := by
        cases z with
        | e =>
          have Sx := Sw.ext e2
          refine (fx.mono (jv (reg_vis e1))).imm (fun a ys q => ?_) (immL_get (r1.2.1 rfl) hx)
          obtain ⟨n, q⟩ := of_vis q
          refine msk_of n (fun j m => ?_) q
          obtain ⟨_, o, q2, t⟩ := Sx.dom j a m
          rw [q] at q2; cases q2; cases t
        | f => exact fx.mono (jn_msk Sw e2 hB)
        | n => exact fx.mono (jn_msk Sw e2 (Sub.trans (nw_msk S e1) hB))
      refine ⟨H0', _, _, _, _, Sw.ext e2, fx', hl, fun δ2 σ2 r2 S2 only => ⟨wipe_eq only, H0', _, δ2, _, S2, r2, fun b H3 r3 e3 => ?_⟩⟩
      have I3 := I2.ext e3
      cases b with
      | true =>
        refine ⟨H0', _, δ2, _, S2.ext e3, r3, fun y v H4 ⟨k, hk, room, r4⟩ e4 f4 => ?_⟩
        exact ⟨k, acc, keyV_of f4 hk, (I3.ext e4).set, room, addK acc k, (I3.ext e4).add nD, r4⟩
      | false => exact ⟨acc, I3, r3⟩
    · have e : i = xs.length := by omega
      subst e
      rw [List.drop_length] at hl
      obtain ⟨H0', Sw⟩ := I.sr
      refine .inl ⟨o1 (Nat.le_refl _), Lp, acc, rfl, I.set, hl.1, hl.2.1, fun rs p nd mem pw hz hp => ?_⟩
      have e3 : Xt C.pl H1 H' := ⟨I.sub, fun _ => Sw.pol⟩
      have e4 : Xt C.pl H' (upd H' p (.lst (rs.map kV))) := .new hp
      have np := notHid Sw.pol hp
      have hp1 : H1 p = none := e3.free np hp
      exact q _ _ _ (hl.2.2 rs nd mem pw) ((e1.trans e3).trans e4) (.lst (nw_new np (e1.free np hp1) upd_same rfl) (fz_keys rs))⟩
end
end PD
set_option Elab.async false
set_option linter.all false
set_option maxRecDepth 100000
set_option maxHeartbeats 2000000
namespace PD
open PySem PySem.Spec PyProof.Rows L2
theorem dP_set {X : Cx} {pins : List (Addr × Obj)} {σ : L2.St} {H H' : Hp} {s : Shared} {E : Value → Shared → Prop} {a : Addr} {y v : V} {u r : Value} {Q : Unit → Shared → Prop} (I : Inv X pins σ H s) (hu : X.A.units + 1 < cLine) (g : DPut H a y v H') (ry : RelV y u) (rv : RelV v r) (h : ∀ s', Inv X pins σ H' s' → Q () s') :
    wpAny (model X.prog X.w) X.A (dictSet a u r) Q E s := by
  rcases g with ⟨kvs, k, e, ey, l, eH⟩ | ⟨kvs, k, b, e, ey, eb, l, eH⟩
  · subst ey eH
    exact d_dictSet I e l ry rv h
  · subst ey eH
    cases (show u = Value.ref b from ry)
    obtain ⟨z, hd, xs, rel, dd⟩ := dt_of I.hok e
    have zq : xs.length ≤ sizeLine := by rw [← Paired.length rel]; exact z
    have lq : (putK kvs k v).length ≤ sizeLine := by have := length_putK kvs k v; omega
    refine wpAny_dictSet_heap (hsz := zq) (show X.A.units < cLine by omega) (key_of I.hok eb) dd fun h' dd' hs => h _ ?_
    obtain ⟨q, es, ep, hq, h2, h3, h4, _, h5⟩ := dd'
    refine d_write I (by rw [e]; exact True.intro) hs ⟨q, hq⟩ ⟨lq, hd, _, (rel.put k eb rv).keeps fun c ys ec => ?_, q, es, ep, hq, h2, h3, h4, h5⟩
    rw [upd_ne (ne_of ec e (fun z => nomatch z))]
    exact ec
section
variable {X : Cx}
/-- a dict comprehension, keys also tuples of keys -/
def tDcP (o0 : HO) (wi : TI) (g : TG) (tt : TT) (tk tv : TE) (vs : List Nat) : TE := fun σ H Q => wi σ H fun J H1 => ∀ D, H1 D = none → ∃ W : Nat → Nat → Hp → Prop, (∃ m, W 0 m (upd H1 D o0)) ∧ ∀ i m H, W i m H →
  (J.stop i H ∧ Q (.ref D) H) ∨ (J.go i H ∧ ∃ Nx : Hp → Prop, (∀ H', Nx H' → ∃ m', m' < m ∧ W (i + 1) m' H') ∧ ∀ x H', J.yld i H x H' → g x (wipe σ vs) H' fun σ2 H2 => wipe σ2 vs = wipe σ vs ∧ tt σ2 H2 fun b H3 =>
    if b = true then tk σ2 H3 fun y H4 => tv σ2 H4 fun z H5 => ∃ H6, DPut H5 D y z H6 ∧ Nx H6 else Nx H3)
theorem dcP_core {pins : List (Addr × Obj)} {s : Shared} {σ : L2.St} {H : Hp} {Q : VK} {kx vx tg iter : Expr} {ifs : List Expr} {scope : Scope} {own : List (Str × Nat)} {pos pos' : Pos} {wi : TI} {g : TG} {tt : TT} {tk tv : TE} {o0 : HO} (ho0 : o0 = .dK [] ∨ o0 = .dT []) {use : Option (Value → Sem Unit)} {Qf : Value → Shared → Prop}
    (hc : X.calm = true) (hu : X.A.units + 1 < cLine) (hN : X.N.Nodup) (I : Inv X pins σ H s) (hi : PI X tg iter wi) (ok : BlkOk X.N X.env.scope scope own)
    (hg : ∀ (s : Shared) (H : Hp) (C : Addr) (cl : List (Str × Addr)) (fp : List Addr), PG (X.blk s H scope (compEnvC scope cl C X.env) fp) tg g) (ht : ∀ (s : Shared) (H : Hp) (C : Addr) (cl : List (Str × Addr)) (fp : List Addr), PTs (X.blk s H scope (compEnvC scope cl C X.env) fp) ifs tt)
    (hk : ∀ (s : Shared) (H : Hp) (C : Addr) (cl : List (Str × Addr)) (fp : List Addr), PE (X.blk s H scope (compEnvC scope cl C X.env) fp) kx tk)
    (he : ∀ (s : Shared) (H : Hp) (C : Addr) (cl : List (Str × Addr)) (fp : List Addr), PE (X.blk s H scope (compEnvC scope cl C X.env) fp) vx tv) (hs : ∀ x, foldedSetIterable iter X.env x = pure x)
    (h : tDcP o0 wi g tt tk tv (own.map (·.2)) σ H Q)
    (hRR : ∀ D C s' m H', Inv X pins σ H' s' → Q (.ref D) H' → s'.heap.Ns C m → FpOk X pins H' C → compPost (model X.prog X.w) X.A X.xe use Qf (.ref D) C (.ok .next) s') :
    wpAny (model X.prog X.w) X.A (comprehension (.DictComp kx vx [⟨tg, iter, ifs, 0⟩] scope pos) scope X.env pos' newDict false (eval iter X.env) use) Qf X.xe s := by
  have hfr : ∀ y ∈ scope.names, y.2 = .free → ∃ c, X.env.cells.lookup y.1 = some c := fun y hy e => by
    rcases ok.free y hy e with k | k
    · exact I.ok.has _ (.inl k)
    · exact I.ok.has _ (.inr k)
  refine wpAny_comprehension_free (use := use) rfl hs (closure_ok hfr) ok.kind (fun y hy e => by rw [ok.uniq y hy, e])
    (thn (hi.run pins s σ H _ I h) fun xv s1 hx => thn hx fun itv s2 h2 => ?_)
  obtain ⟨it, fp, tn, J, H2, e, I2, T, st2, f2, q⟩ := h2
  subst e
  refine wpAny_newObj_type (newEnv_comp ?_)
  generalize hD : s2.heap.objs.size = D
  have dn0 : H2 D = none := I2.hok.fresh (Nat.le_of_eq hD)
  obtain ⟨W, ⟨m0, w0⟩, turn⟩ := q D dn0
  -- the new list
  generalize hs3 : ({ s2 with heap := s2.heap.push { cls := .type "dict", data := .dict #[] } } : Shared) = s3
  have I3 : Inv X pins σ (upd H2 D o0) s3 := by
    rw [← hs3]
    refine I2.laid (t' := s2.toks) (fun b o e => Heap.get?_push_of_some _ e) (Nat.le_of_eq hD) ?_
    rw [← hD]
    rcases ho0 with e | e
    · rw [e]; exact dk_empty s2.heap I2.big
    · rw [e]; exact dt_empty s2.heap I2.big
  have h3 : s3.heap = s2.heap.push { cls := .type "dict", data := .dict #[] } := by rw [← hs3]
  have sz : ∀ b ∈ fp, b < s2.heap.objs.size := fun b hb => by
    obtain ⟨o, e, _⟩ := T.obj _ _ st2 b hb
    exact Heap.lt_size e
  have f3 : ∀ b ∈ fp, FpOk X pins (upd H2 D o0) b ∧ b < s3.heap.objs.size := fun b hb => by
    have hlt := sz b hb
    refine ⟨⟨?_, (f2 b hb).2⟩, by rw [h3, Heap.size_push]; exact Nat.lt_succ_of_lt hlt⟩
    rw [upd_ne (by rw [← hD]; exact Nat.ne_of_lt hlt)]
    exact (f2 b hb).1
  have st3 : tn 0 s3.heap := T.keep _ _ _ st2 fun b _ o e => by rw [h3]; exact Heap.get?_push_of_some _ e
  have I4 := block_start I3 ok hN f3
  have pg := hg s3 (upd H2 D o0) s3.heap.objs.size (cellsFrom (s3.heap.objs.size + 1) scope.names (cloFrom X.env.cells scope.names [])) fp
  have pt := ht s3 (upd H2 D o0) s3.heap.objs.size (cellsFrom (s3.heap.objs.size + 1) scope.names (cloFrom X.env.cells scope.names [])) fp
  have pk := hk s3 (upd H2 D o0) s3.heap.objs.size (cellsFrom (s3.heap.objs.size + 1) scope.names (cloFrom X.env.cells scope.names [])) fp
  have pe := he s3 (upd H2 D o0) s3.heap.objs.size (cellsFrom (s3.heap.objs.size + 1) scope.names (cloFrom X.env.cells scope.names [])) fp
  show codeAny _ _ (.compStart (.DictComp kx vx [⟨tg, iter, ifs, 0⟩] scope pos) 0 (.ref it) (.ref D) (compEnvC scope (cellsFrom (s3.heap.objs.size + 1) scope.names (cloFrom X.env.cells scope.names [])) s3.heap.objs.size X.env)) (compPost (model X.prog X.w) X.A X.xe use Qf (.ref D) s3.heap.objs.size) { s3 with heap := pushCells (s3.heap.push { cls := .type "dict", data := .dict #[] }) scope.names }
  have nfp : ∀ b ∈ fp, (upd H2 D o0) b = none := fun b hb => (f3 b hb).1.1
  generalize hce : compEnvC scope (cellsFrom (s3.heap.objs.size + 1) scope.names (cloFrom X.env.cells scope.names [])) s3.heap.objs.size X.env = ce at I4 pg pt pk pe ⊢
  have cL : ce.locals = s3.heap.objs.size := by subst hce; rfl
  generalize hH3 : upd H2 D o0 = H3 at I3 I4 pg pt pk pe w0 nfp f3
  generalize hs4 : ({ s3 with heap := pushCells (s3.heap.push { cls := .type "dict", data := .dict #[] }) scope.names } : Shared) = s4 at I4 ⊢
  have st4 : tn 0 s4.heap := T.keep _ _ _ st3 fun b _ o e => by rw [← hs4]; exact pushCells_keeps _ _ _ _ (Heap.get?_push_of_some _ e)
  have stt : ∀ {σ' : L2.St} {H' : Hp} {s' : Shared}, Inv (X.blk s3 H3 scope ce fp) [] σ' H' s' → (∀ b ∈ fp, H' b = none) → ∀ b ∈ fp, FpOk (X.blk s3 H3 scope ce fp) [] H' b := fun {σ' H' s'} I' hn b hb =>
    ⟨hn b hb, (I'.ok.exf b hb).1, I'.ok.exfs b hb, .inl hb, fun x c e => (I'.ok.exf b hb).2 x c e, fun p hp => absurd (show p ∈ ([] : List (Addr × Obj)) ++ [] from hp) (by simp)⟩
  have loop : codeAny (model X.prog X.w) X.A (.compLoop (.DictComp kx vx [⟨tg, iter, ifs, 0⟩] scope pos) 0 (.ref it) (.ref D) ce) (compPost (model X.prog X.w) X.A X.xe use Qf (.ref D) s3.heap.objs.size) s4 := by
    refine compLoop_anyD (fun n s' => ∃ i H', Inv (X.blk s3 H3 scope ce fp) [] (wipe σ (own.map (·.2))) H' s' ∧ tn i s'.heap ∧ (∀ b ∈ fp, H' b = none) ∧ W i n H') ?_ m0 ⟨0, H3, I4, st4, nfp, w0⟩
    rintro n s5 ⟨i, H5, I5, st5, n5, w5⟩
    rcases turn i n H5 w5 with ⟨stop, qq⟩ | ⟨go, Nx, hNx, step⟩
    · have td := T.done (X.blk s3 H3 scope ce fp) rfl rfl rfl hc i [] s5 _ H5 (fun _ _ => False) I5 (stt I5 n5) st5 stop
      refine thnF td fun r s6 ⟨hr, I6⟩ => ?_
      subst hr
      -- back in the def's context
      have I7 : Inv X pins σ H5 s6 := I3.call' (ch := fp) I6.os I6.base I6.hok I6.bare fun b hb => ⟨(f3 b hb).1.2.2.2.1, (f3 b hb).1.2.1, (f3 b hb).1.2.2.2.2.1, (f3 b hb).1.2.2.2.2.2⟩
      have nC : H5 s3.heap.objs.size = none := by
        have z : H5 ce.locals = none := I6.free
        rw [cL] at z
        exact z
      obtain ⟨m, hn, _⟩ := I6.loc
      have hn : s6.heap.Ns ce.locals m := hn
      rw [cL] at hn
      exact hRR D s3.heap.objs.size s6 m H5 I7 qq hn (I3.fpOk (Nat.le_refl _) nC)
    · have ti := T.item (X.blk s3 H3 scope ce fp) rfl rfl rfl hc i [] s5 _ H5 (fun _ _ => False) I5 (stt I5 n5) st5 go
      refine thnF ti fun r s6 ⟨u, hr, h6⟩ => ?_
      subst hr
      refine thnF h6 fun _ s7 ⟨x, H7, I7, r7, y7, st7, n7⟩ => ?_
      have I7' := I7.pinned (stt I7 n7) (T.obj _ _ st7)
      refine thnF (pg.run _ s7 _ H7 x u _ I7' r7 (step x H7 y7)) fun _ s8 ⟨σ8, H8, I8, hw8, q8⟩ => ?_
      refine thnF (pt.run _ s8 σ8 H8 _ I8 q8) fun b s9 ⟨H9, I9, q9⟩ => ?_
      -- the turn's end
      have fin : ∀ {s' : Shared} {H' : Hp}, Inv (X.blk s3 H3 scope ce fp) ([] ++ pinsAt fp s7.heap) σ8 H' s' → Nx H' → ∃ m, m < n ∧ ∃ i H', Inv (X.blk s3 H3 scope ce fp) [] (wipe σ (own.map (·.2))) H' s' ∧ tn i s'.heap ∧ (∀ b ∈ fp, H' b = none) ∧ W i m H' := fun {s' H'} I' nx => by
        obtain ⟨m', hm, w'⟩ := hNx H' nx
        have pin' : ∀ b ∈ fp, ∀ o, s7.heap.get? b = some o → s'.heap.get? b = some o ∧ H' b = none := fun b hb o e =>
          let z := I'.pin (b, o) (List.mem_append_right _ (List.mem_append_right _ (mem_pinsAt hb e)))
          ⟨z.1, z.2.1⟩
        have hl : (wipe σ (own.map (·.2))).length = σ8.length := by rw [← hw8, wipe_length]
        refine ⟨m', hm, i + 1, H', (I'.unpinned (pins := [])).weak hl (fun j v e => ?_), T.keep _ _ _ st7 fun b hb o e => (pin' b hb o e).1, fun b hb => ?_, w'⟩
        · rw [← hw8] at e
          exact (wipe_some e).1
        · obtain ⟨o, e, _⟩ := T.obj _ _ st7 b hb
          exact (pin' b hb o e).2
      cases b with
      | false =>
        simp only [Bool.false_eq_true, if_false] at q9 ⊢
        exact fin I9 q9
      | true =>
        simp only [if_true] at q9 ⊢
        refine thnF (pk.run _ s9 σ8 H9 _ I9 q9) fun z s10 ⟨yk, H10, I10, r10, q10⟩ => ?_
        refine thnF (pe.run _ s10 σ8 H10 _ I10 q10) fun z2 s11 ⟨yv, H11, I11, r11, H6, put, nx⟩ => ?_
        exact dP_set (X := X.blk s3 H3 scope ce fp) I11 hu put r10 r11 fun s12 I12 => fin I12 nx
  exact codeAny_compStart_dict loop (T.self X.A 0 _ _ _ st4 loop)
/-- as a value -/
theorem pe_dcP {kx vx tg iter : Expr} {ifs : List Expr} {scope : Scope} {own : List (Str × Nat)} {pos : Pos} {wi : TI} {g : TG} {tt : TT} {tk tv : TE} {o0 : HO} (ho0 : o0 = .dK [] ∨ o0 = .dT []) (hc : X.calm = true) (hu : X.A.units + 1 < cLine) (hN : X.N.Nodup) (hi : PI X tg iter wi) (ok : BlkOk X.N X.env.scope scope own)
    (hg : ∀ (s : Shared) (H : Hp) (C : Addr) (cl : List (Str × Addr)) (fp : List Addr), PG (X.blk s H scope (compEnvC scope cl C X.env) fp) tg g) (ht : ∀ (s : Shared) (H : Hp) (C : Addr) (cl : List (Str × Addr)) (fp : List Addr), PTs (X.blk s H scope (compEnvC scope cl C X.env) fp) ifs tt)
    (hk : ∀ (s : Shared) (H : Hp) (C : Addr) (cl : List (Str × Addr)) (fp : List Addr), PE (X.blk s H scope (compEnvC scope cl C X.env) fp) kx tk)
    (he : ∀ (s : Shared) (H : Hp) (C : Addr) (cl : List (Str × Addr)) (fp : List Addr), PE (X.blk s H scope (compEnvC scope cl C X.env) fp) vx tv) (hs : ∀ x, foldedSetIterable iter X.env x = pure x := by intro _; rfl) :
    PE X (.DictComp kx vx [⟨tg, iter, ifs, 0⟩] scope pos) (tDcP o0 wi g tt tk tv (own.map (·.2))) := by
  refine ⟨fun pins s σ H Q I h => ?_⟩
  rw [arm_eval_DictComp]
  refine dcP_core ho0 hc hu hN I hi ok hg ht hk he hs h fun D C s' m H' I' q hn f => ⟨m, hn, fun h'' sb => ?_⟩
  obtain ⟨f0, f1, f2, f3, f4, f5⟩ := f
  exact ⟨.ref D, H', I'.turned (t' := s'.toks) (fun b o hb e => (sb.2 b hb).trans e) f0 f1 f3 f4 f5, rfl, q⟩
end
end PD
set_option Elab.async false
set_option linter.all false
set_option maxRecDepth 100000
set_option maxHeartbeats 2000000
namespace PD
open PySem PySem.Spec PyProof.Rows L2
/-! ### dict comprehensions over data: values immutable -/
def d0 : Bool → D
  | true => .dT []
  | false => .dK []
def o0 : Bool → HO
  | true => .dT []
  | false => .dK []
theorem o0_or (b : Bool) : o0 b = .dK [] ∨ o0 b = .dT [] := by cases b <;> simp [o0]
def putX : D → D → D → Option D
  | .dK kvs, k, v => (keyD k).map fun k => .dK (putD kvs k v)
  | .dT kvs, k, v => (tkeyD k).map fun k => .dT (putD kvs k v)
  | _, _, _ => none
def lenX : D → Nat
  | .dK kvs => kvs.length
  | .dT kvs => kvs.length
  | _ => 0
def dcD (tg : DG) (tt : DTt) (tk tv : DE) (δ : DEnv) : List D → D → (D → Prop) → Prop
  | [], acc, R => R acc
  | x :: xs, acc, R => tg x δ fun δ2 => tt δ2 fun b => if b = true then tk δ2 fun k => tv δ2 fun v => imm v = true ∧ lenX acc < sizeLine ∧ ∃ acc', putX acc k v = some acc' ∧ dcD tg tt tk tv δ xs acc' R else dcD tg tt tk tv δ xs acc R
def dDc (t b : Bool) (ti : DA) (tg : DG) (tt : DTt) (tk tv : DE) (vs : List Nat) : DE := fun δ R => ti δ fun xs => xs.length ≤ sizeLine ∧ (b = true → immL xs = true) ∧ dcD tg tt tk tv (wipeD δ vs) xs (d0 t) R
section
variable {C : Cn} {H0 H H1 H2 H' : Hp} {F : Nat → List Addr} {σ : L2.St} {δ : DEnv} {Q : VK} {tg : DG}
def DatI (C : Cn) (Lp : Addr) (B H' : Hp) (acc : D) : Prop := (∃ kds vs, acc = .dK kds ∧ H' Lp = some (.dK vs) ∧ FzK C.K C.pl B vs kds) ∨ ∃ kds vs, acc = .dT kds ∧ H' Lp = some (.dT vs) ∧ FzT C.K C.pl B vs kds
structure DcI (C : Cn) (F : Nat → List Addr) (σw : L2.St) (δw : DEnv) (Lp : Addr) (H1 H' : Hp) (acc : D) : Prop where
  sr : ∃ H0, SR C H0 F σw H' δw
  mem : Lp ∈ F (σw.length + Lp)
  sub : ∀ a o, ¬ Hid C.pl a → H1 a = some o → H' a = some o
  dat : DatI C Lp (nwx C.pl Lp H1 H') H' acc
theorem DatI.mono {Lp : Addr} {B B' : Hp} {acc : D} (I : DatI C Lp B H acc) (s : Sub B B') (e : ∀ o, H Lp = some o → H' Lp = some o) : DatI C Lp B' H' acc := by
  rcases I with ⟨kds, vs, h1, h2, h3⟩ | ⟨kds, vs, h1, h2, h3⟩
  · exact .inl ⟨kds, vs, h1, e _ h2, h3.mono s⟩
  · exact .inr ⟨kds, vs, h1, e _ h2, h3.mono s⟩
theorem DcI.ext {σw : L2.St} {δw : DEnv} {Lp : Addr} {acc : D} (I : DcI C F σw δw Lp H1 H acc) (e : Xt C.pl H H') : DcI C F σw δw Lp H1 H' acc := by
  obtain ⟨H0, S⟩ := I.sr
  exact ⟨⟨H0, S.ext e⟩, I.mem, fun a o n h => e.sub a o n (I.sub a o n h), I.dat.mono (nwx_mono fun a o _ n h => e.sub a o n h) fun o h => e.sub Lp _ (S.dom _ Lp I.mem).1 h⟩
theorem DcI.start (S : SR C H0 F σ H1 δ) {Lp : Addr} (nD : H1 Lp = none) (vs : List Nat) (t : Bool) : DcI C (pseu F (σ.length + Lp) Lp) (L2.wipe σ vs) (wipeD δ vs) Lp H1 (upd H1 Lp (o0 t)) (d0 t) :=
  ⟨⟨H0, (S.lay nD (by cases t <;> rfl)).wipe vs⟩, by rw [wipe_length]; exact pseu_mem.mpr (.inl ⟨rfl, rfl⟩), fun a o n h => by rw [upd_ne (ne_of_none h nD)]; exact h, by
    cases t
    · exact .inl ⟨[], [], rfl, upd_same, .nil⟩
    · exact .inr ⟨[], [], rfl, upd_same, .nil⟩⟩
theorem DcI.put {σw : L2.St} {δw : DEnv} {Lp : Addr} {acc acc' k v : D} {y z : V} (I : DcI C F σw δw Lp H1 H acc) (nD : H1 Lp = none) (x1 : Xt C.pl H1 H1) (fy : Fz C.K C.pl (vis C.pl H) y k) (fz : Fz C.K C.pl (vis C.pl H) z v) (iv : imm v = true) (hl : lenX acc < sizeLine) (hp : putX acc k v = some acc') :
    ∃ H6, DPut H Lp y z H6 ∧ DcI C F σw δw Lp H1 H6 acc' := by
  obtain ⟨H0, S⟩ := I.sr
  have ts : TSub (vis C.pl H) (nwx C.pl Lp H1 H) := fun a xs h => by
    obtain ⟨n, h⟩ := of_vis h
    have ne : a ≠ Lp := by
      rintro rfl
      rcases I.dat with ⟨_, _, _, q, _⟩ | ⟨_, _, _, q, _⟩ <;> (rw [h] at q; cases q)
    refine nwx_of ne ?_
    cases r : H1 a with
    | none => exact nw_new n r h rfl
    | some u =>
      have q := I.sub a u n r
      rw [h] at q; cases q
      exact nw_tup n r
  have fz' := fz.imm ts iv
  have mono : ∀ o : HO, Sub (nwx C.pl Lp H1 H) (nwx C.pl Lp H1 (upd H Lp o)) := fun o => nwx_mono fun a u n _ h => by rw [upd_ne n]; exact h
  have go : ∀ (o : HO), isTupO o = false → DatI C Lp (nwx C.pl Lp H1 (upd H Lp o)) (upd H Lp o) acc' → DcI C F σw δw Lp H1 (upd H Lp o) acc' := fun o t d =>
    ⟨⟨H0, S.relay (Nat.le_add_right _ _) I.mem t⟩, I.mem, fun a u n h => by rw [upd_ne (fun z : a = Lp => by rw [z, nD] at h; cases h)]; exact I.sub a u n h, d⟩
  rcases I.dat with ⟨kds, vs, rfl, h2, h3⟩ | ⟨kds, vs, rfl, h2, h3⟩
  · have hp : (keyD k).map (fun k => D.dK (putD kds k v)) = some acc' := hp
    cases hk : keyD k with
    | none => rw [hk] at hp; cases hp
    | some kk =>
      rw [hk] at hp
      cases hp
      have ey := keyD_ok fy hk
      have hl : kds.length < sizeLine := hl
      exact ⟨_, .inl ⟨vs, kk, h2, ey, by rw [h3.len]; exact hl, rfl⟩, go _ rfl (.inl ⟨_, _, rfl, upd_same, (h3.put fz').mono (mono _)⟩)⟩
  · have hp : (tkeyD k).map (fun k => D.dT (putD kds k v)) = some acc' := hp
    cases hk : tkeyD k with
    | none => rw [hk] at hp; cases hp
    | some kk =>
      rw [hk] at hp
      cases hp
      obtain ⟨b, ey, hb⟩ := tkeyD_ok fy hk
      have hl : kds.length < sizeLine := hl
      exact ⟨_, .inr ⟨vs, kk, b, h2, ey, vis_sub _ _ hb, by rw [h3.len]; exact hl, rfl⟩, go _ rfl (.inr ⟨_, _, rfl, upd_same, (h3.put fz').mono (mono _)⟩)⟩
theorem DcI.fin {σw : L2.St} {δw : DEnv} {Lp : Addr} {acc : D} (I : DcI C F σw δw Lp H1 H' acc) (nD : H1 Lp = none) : Xt C.pl H1 H' ∧ Fz C.K C.pl (nw C.pl H1 H') (.ref Lp) acc := by
  obtain ⟨H0, S⟩ := I.sr
  have np := (S.dom _ Lp I.mem).1
  refine ⟨⟨I.sub, fun _ => S.pol⟩, ?_⟩
  rcases I.dat with ⟨kds, vs, rfl, h2, h3⟩ | ⟨kds, vs, rfl, h2, h3⟩
  · exact .dK (.inl (nw_new np nD h2 rfl)) (h3.mono nwx_nw)
  · exact .dT (.inl (nw_new np nD h2 rfl)) (h3.mono nwx_nw)
theorem cv_dc {t : Bool} {ti : DA} {tt : DTt} {tk tv : DE} {vs : List Nat} (z : Zn) : lift C .n (dDc t (zb z) ti tg tt tk tv vs) σ H Q → tDcP (o0 t) (liftI C z ti) (liftG C (· ∈ vs) tg) (liftT C tt) (lift C .e tk) (lift C .e tv) vs σ H Q := fun ⟨H0, F, δ, R, S, h, q⟩ =>
  ⟨H0, F, δ, _, S, h, fun xs J H1 r1 e1 ok Lp nD => by
    have S1 := S.ext e1
    refine ⟨fun i m H' => m = xs.length - i ∧ i ≤ xs.length ∧ ∃ acc, DcI C (pseu F (σ.length + Lp) Lp) (L2.wipe σ vs) (wipeD δ vs) Lp H1 H' acc ∧ dcD tg tt tk tv (wipeD δ vs) (xs.drop i) acc R, ⟨_, rfl, Nat.zero_le _, d0 t, DcI.start S1 nD vs t, r1.2.2⟩, ?_⟩
    rintro i m H' ⟨rfl, hi, acc, I, hl⟩
    have okB : Sub (reg z F C.pl H H1) H' := fun a o h => by
      obtain ⟨n, h⟩ := of_vis (reg_vis e1 a o h)
      exact I.sub a o n h
    obtain ⟨o1, o2⟩ := ok i H' okB
    by_cases hlt : i < xs.length
    · have hx : xs[i]? = some xs[i] := List.getElem?_eq_getElem hlt
      obtain ⟨g, y⟩ := o2 _ hx
      rw [drop_cons hx] at hl
      refine .inr ⟨g, fun H'' => ∃ acc', DcI C (pseu F (σ.length + Lp) Lp) (L2.wipe σ vs) (wipeD δ vs) Lp H1 H'' acc' ∧ dcD tg tt tk tv (wipeD δ vs) (xs.drop (i + 1)) acc' R, fun H'' ⟨acc', h2, h3⟩ => ⟨xs.length - (i + 1), by omega, rfl, hlt, acc', h2, h3⟩, fun x H2 yl => ?_⟩
      obtain ⟨e2, fx⟩ := y x H2 yl
      have I2 := I.ext e2
      obtain ⟨H0', Sw⟩ := I.sr
      have hB : Sub (msk F C.pl H1) (msk (pseu F (σ.length + Lp) Lp) C.pl H2) := fun a o h => by
        obtain ⟨n, off, h⟩ := of_msk h
        refine msk_of n (fun j z => ?_) (e2.sub a o n (I.sub a o n h))
        rcases pseu_mem.mp z with ⟨_, rfl⟩ | z
        · rw [nD] at h; cases h
        · exact off j z
      have jv : ∀ {B : Hp}, Sub B (vis C.pl H1) → Sub (jn C.pl B H' H2) (vis C.pl H2) := fun {B} hb a o h => by
        unfold jn at h
        cases q : B a with
        | none => rw [q] at h; exact nw_vis e2 a o h
        | some u =>
          rw [q] at h; cases h
          obtain ⟨n, q⟩ := of_vis (hb a _ q)
          exact vis_of n (e2.sub a _ n (I.sub a _ n q))
      have fx' : Fz C.K C.pl (msk (pseu F (σ.length + Lp) Lp) C.pl H2) x xs[i] := by
        cases z with
        | e =>
          have Sx := Sw.ext e2
          refine (fx.mono (jv (reg_vis e1))).imm (fun a ys q => ?_) (immL_get (r1.2.1 rfl) hx)
          obtain ⟨n, q⟩ := of_vis q
          refine msk_of n (fun j m => ?_) q
          obtain ⟨_, o, q2, t⟩ := Sx.dom j a m
          rw [q] at q2; cases q2; cases t
        | f => exact fx.mono (jn_msk Sw e2 hB)
        | n => exact fx.mono (jn_msk Sw e2 (Sub.trans (nw_msk S e1) hB))
      refine ⟨H0', _, _, _, _, Sw.ext e2, fx', hl, fun δ2 σ2 r2 S2 only => ⟨wipe_eq only, H0', _, δ2, _, S2, r2, fun b H3 r3 e3 => ?_⟩⟩
      have I3 := I2.ext e3
      cases b with
      | true =>
        refine ⟨H0', _, δ2, _, S2.ext e3, r3, fun k y H4 r4 e4 f4 => ?_⟩
        refine ⟨H0', _, δ2, _, (S2.ext e3).ext e4, r4, fun v z5 H5 ⟨iv, hlen, acc', hput, r5⟩ e5 f5 => ?_⟩
        obtain ⟨H6, p6, I6⟩ := ((I3.ext e4).ext e5).put nD (Xt.refl _ _) (f4.mono (vis_mono e5)) f5 iv hlen hput
        exact ⟨H6, p6, acc', I6, r5⟩
      | false => exact ⟨acc, I3, r3⟩
    · have e : i = xs.length := by omega
      subst e
      obtain ⟨x1, x2⟩ := I.fin nD
      rw [List.drop_length] at hl
      exact .inl ⟨o1 (Nat.le_refl _), q _ _ H' hl (e1.trans x1) (x2.mono (nw_tail e1 x1))⟩⟩
end
end PD
set_option Elab.async false
set_option linter.all false
set_option maxRecDepth 100000
set_option maxHeartbeats 2000000
namespace PD
open PySem PySem.Spec PyProof.Rows L2
section
variable {X : Cx} {K : PySem.W.Frag} {pl : Option (Addr × Addr)}
/-! ### sorted(xs), xs a list of data of any length -/
def rSortedU (K : PySem.W.Frag) : List V → Hp → VK → Prop := fun vs H Q => ∃ (a : Addr) (bs : List (V × PyData)), vs = [.ref a] ∧ SqL K H a (bs.map (·.1)) ∧ (∀ b ∈ bs, Dp K H b.1 b.2) ∧ PySem.W.AllAlike (bs.map (·.2)) ∧ PySem.W.Sortable (bs.map (·.2)) ∧ (∀ b ∈ bs, b.2.depth ≤ 32) ∧
  ∀ p, H p = none → Q (.ref p) (upd H p (.lst ((bs.mergeSort (PySem.W.dataLe false (·.2))).map (·.1))))
theorem eachIs_vals : ∀ {bs : List (V × PyData)} {us : List Value}, Vals (bs.map (·.1)) us → PySem.W.EachIs (fun v (b : V × PyData) => RelV b.1 v) us bs
  | [], _, .nil => .nil
  | _ :: _, _, .cons r t => .cons r (eachIs_vals t)
theorem vals_eachIs : ∀ {bs : List (V × PyData)} {us : List Value}, PySem.W.EachIs (fun v (b : V × PyData) => RelV b.1 v) us bs → Vals (bs.map (·.1)) us
  | [], _, .nil => .nil
  | _ :: _, _, .cons r t => .cons r (vals_eachIs t)
theorem eachIs_and {α β : Type} {R S : α → β → Prop} : ∀ {us : List α} {bs : List β}, PySem.W.EachIs R us bs → (∀ u, ∀ b ∈ bs, R u b → S u b) → PySem.W.EachIs S us bs
  | _, _, .nil, _ => .nil
  | _, _, .cons r t, h => .cons (h _ _ (List.mem_cons_self ..) r) (eachIs_and t fun u b m => h u b (List.mem_cons_of_mem _ m))
theorem cr_sortedU (hu : X.A.units + 64 < cLine) : CallR X (.builtin "sorted") (rSortedU X.K) := by
  intro pins s σ H vs us Q I r h
  obtain ⟨a, bs, rfl, hs, hd, hal, hso, hdp, q⟩ := h
  obtain ⟨its, rv, hl, hz⟩ := I.list hs
  obtain ⟨u, rfl, ru⟩ := vals1 r
  obtain rfl : u = Value.ref a := ru
  have e1 := eachIs_vals rv
  have hz' : bs.length ≤ sizeLine := by rwa [List.length_map] at hz
  refine PySem.W.sorted_data (β := V × PyData) (bs := bs) (enc := (·.2)) (vs := its) hl.isList e1 (eachIs_and e1 fun u b m rr => Dp.reads I b.2 b.1 u (hd b m) rr) hal hso hz' (fun b hb => by have := hdp b hb; omega) fun out ho e2 => ?_
  obtain ⟨e, he⟩ := sortedAll_at s.heap its out.toArray
  have hv := vals_eachIs e2
  refine ⟨.ref (s.heap.objs.size + 1), _, I.laid (t' := s.toks) (fun _ _ => sortedAll_old) (Nat.le_succ _) (show ObjOk X.prog X.w _ _ _ (.lst ((bs.mergeSort (PySem.W.dataLe false (·.2))).map (·.1))) from ⟨?_, out, e, hv, he⟩), rfl, q _ (I.hok.fresh (Nat.le_succ _))⟩
  rw [List.length_map, List.length_mergeSort]
  exact hz'
def sortableD (ds : List D) : Bool := ds.all (fun d => match d with | .tup (_ :: _) => true | _ => false) || ds.all (fun d => match d with | .int _ => true | .str _ => true | .bl _ => true | _ => false)
theorem sortable_of {ds : List D} (h : sortableD ds = true) : PySem.W.Sortable (ds.map toPy) := by
  unfold sortableD at h
  rw [Bool.or_eq_true] at h
  refine h.imp (fun h d hd => ?_) fun h d hd => ?_
  · obtain ⟨x, hx, rfl⟩ := List.mem_map.mp hd
    have := List.all_eq_true.mp h x hx
    match x, this with
    | .tup (y :: r), _ => exact ⟨toPy y, toPyL r, by simp only [toPy, toPyL]⟩
  · obtain ⟨x, hx, rfl⟩ := List.mem_map.mp hd
    have := List.all_eq_true.mp h x hx
    match x, this with
    | .int _, _ => exact ⟨by simp [toPy], by simp [toPy]⟩
    | .str _, _ => exact ⟨by simp [toPy], by simp [toPy]⟩
    | .bl _, _ => exact ⟨by simp [toPy], by simp [toPy]⟩
def fSorted (es : List D) (R : D → Prop) : Prop := match es with
  | [.lst ds] => (immL ds = true ∧ shL 32 ds = true ∧ alkD ds = true ∧ sortableD ds = true) ∧ R (.lst (ds.mergeSort leD))
  | _ => False
theorem shL_mem {n : Nat} : ∀ {ds : List D}, shL n ds = true → ∀ d ∈ ds, sh n d = true
  | [], _, d, m => nomatch m
  | e :: r, h, d, m => by
    unfold shL at h
    rw [Bool.and_eq_true] at h
    rcases List.mem_cons.mp m with rfl | m
    · exact h.1
    · exact shL_mem h.2 d m
theorem immL_mem {ds : List D} (h : immL ds = true) : ∀ d ∈ ds, imm d = true := fun d m => by
  obtain ⟨i, hi, e⟩ := List.getElem_of_mem m
  exact immL_get h (by rw [List.getElem?_eq_getElem hi, e])
theorem fzl_zip {B : Hp} : ∀ {vs : List V} {ds : List D}, FzL K pl B vs ds → (vs.zip ds).map (·.1) = vs ∧ (vs.zip ds).map (·.2) = ds ∧ ∀ p ∈ vs.zip ds, Fz K pl B p.1 p.2
  | _, _, .nil => ⟨rfl, rfl, fun p m => nomatch m⟩
  | _, _, .cons f r => by
    obtain ⟨h1, h2, h3⟩ := fzl_zip r
    refine ⟨by rw [List.zip_cons_cons, List.map_cons, h1], by rw [List.zip_cons_cons, List.map_cons, h2], fun p m => ?_⟩
    rw [List.zip_cons_cons] at m
    rcases List.mem_cons.mp m with rfl | m
    · exact f
    · exact h3 p m
theorem fzl_of {B : Hp} : ∀ {ps : List (V × D)}, (∀ p ∈ ps, Fz K pl B p.1 p.2) → FzL K pl B (ps.map (·.1)) (ps.map (·.2))
  | [], _ => .nil
  | p :: ps, h => .cons (h p (List.mem_cons_self ..)) (fzl_of fun q m => h q (List.mem_cons_of_mem _ m))
theorem cd_sorted : CaD K pl (rSortedU K) fSorted := fun xs es H Q R po f h q => by
  match es, f, h with
  | [.lst ds], .cons (.lst (a := a) (vs := vs) ha fl) .nil, h =>
    obtain ⟨⟨h1, h2, h3, h4⟩, h5⟩ := h
    obtain ⟨z1, z2, z3⟩ := fzl_zip fl
    have e2 : ((vs.zip ds).map fun p => (p.1, toPy p.2)).map (·.1) = vs := by rw [List.map_map]; exact z1
    have e3 : ((vs.zip ds).map fun p => (p.1, toPy p.2)).map (·.2) = ds.map toPy := by
      rw [List.map_map]
      have : (vs.zip ds).map (fun p => toPy p.2) = ((vs.zip ds).map (·.2)).map toPy := by rw [List.map_map]; rfl
      exact this.trans (by rw [z2])
    have md : ∀ p ∈ vs.zip ds, p.2 ∈ ds := fun p m => by
      have : p.2 ∈ (vs.zip ds).map (·.2) := List.mem_map.mpr ⟨p, m, rfl⟩
      rwa [z2] at this
    refine ⟨a, (vs.zip ds).map fun p => (p.1, toPy p.2), rfl, .inl (.inl (by rw [e2]; exact (of_vis ha).2)), fun b hb => ?_, by rw [e3]; exact alk_all h3, by rw [e3]; exact sortable_of h4, fun b hb => ?_, fun p hp => ?_⟩
    · obtain ⟨p, hp, rfl⟩ := List.mem_map.mp hb
      exact fz_dp (fun a o h => (of_vis h).2) (z3 p hp) (shL_mem h2 _ (md p hp))
    · obtain ⟨p, hp, rfl⟩ := List.mem_map.mp hb
      exact (sh_lay (shL_mem h2 _ (md p hp))).2
    · have ex : Xt pl H (upd H p (.lst ((((vs.zip ds).map fun p => (p.1, toPy p.2)).mergeSort (PySem.W.dataLe false (·.2))).map (·.1)))) := .new hp
      have s1 : (((vs.zip ds).mergeSort fun a b => leD a.2 b.2).map fun p => (p.1, toPy p.2)) = ((vs.zip ds).map fun p => (p.1, toPy p.2)).mergeSort (PySem.W.dataLe false (·.2)) := PySem.W.sort_maps _ fun a _ b _ => by
        rw [PySem.W.dataLe_eq]
        rfl
      have s2 : ((vs.zip ds).mergeSort fun a b => leD a.2 b.2).map (·.2) = ds.mergeSort leD := by
        have := PySem.W.sort_maps (r := fun a b : V × D => leD a.2 b.2) (s := leD) (·.2) (l := vs.zip ds) fun a _ b _ => rfl
        rw [z2] at this
        exact this
      have key : ∀ B : Hp, (∀ p ∈ vs.zip ds, Fz K pl B p.1 p.2) → FzL K pl B ((((vs.zip ds).map fun p => (p.1, toPy p.2)).mergeSort (PySem.W.dataLe false (·.2))).map (·.1)) (ds.mergeSort leD) := fun B hB => by
        rw [← s1, ← s2, List.map_map]
        exact fzl_of (ps := (vs.zip ds).mergeSort fun a b => leD a.2 b.2) fun p m => hB p ((List.mergeSort_perm _ _).mem_iff.mp m)
      exact q _ _ _ h5 ex (.lst (nw_new (notHid po hp) hp upd_same rfl) (key _ fun p m => ((z3 p m).mono (vis_mono ex)).imm (tsub_nw (C := ⟨K, pl, fun _ => false⟩) ex) (immL_mem h1 _ (md p m))))
end
end PD
set_option Elab.async false
set_option linter.all false
set_option maxRecDepth 100000
set_option maxHeartbeats 2000000
namespace PD
open PySem PySem.Spec PyProof.Rows L2
section
variable {X : Cx} {K : PySem.W.Frag} {pl : Option (Addr × Addr)}
/-! ### sorted(d): the keys -/
theorem eachIs_at {α β : Type} {R : α → β → Prop} : ∀ {us : List α} {bs : List β}, us.length = bs.length → (∀ (j : Nat) u b, us[j]? = some u → bs[j]? = some b → R u b) → PySem.W.EachIs R us bs
  | [], [], _, _ => .nil
  | [], _ :: _, h, _ => by simp at h
  | _ :: _, [], h, _ => by simp at h
  | u :: us, b :: bs, h, f => .cons (f 0 u b rfl rfl) (eachIs_at (by simpa using h) fun j x y h1 h2 => f (j + 1) x y (by simpa using h1) (by simpa using h2))
def rSortedDK : List V → Hp → VK → Prop := fun vs H Q => ∃ (a : Addr) (kvs : List (Key × V)), vs = [.ref a] ∧ Rd H a (.dK kvs) ∧ alkD (kvs.map fun kv => kD kv.1) = true ∧
  ∀ p, H p = none → Q (.ref p) (upd H p (.lst (((kvs.map (·.1)).mergeSort fun j k => leD (kD j) (kD k)).map kV)))
theorem vals_of_eachK {P : Program} {w : World} : ∀ {us : List Value} {ks : List Key}, PySem.W.EachIs (fun v k => (mixKind P w).is k v = true) us ks → Vals (ks.map kV) us
  | _, _, .nil => .nil
  | _, _, .cons r t => .cons (relV_key r) (vals_of_eachK t)
theorem cr_sortedDK (hc : X.calm = true) (hu : X.A.units + 64 < cLine) : CallR X (.builtin "sorted") rSortedDK := by
  intro pins s σ H vs us Q I r h
  obtain ⟨a, kvs, rfl, hd, hal, q⟩ := h
  obtain ⟨u, rfl, ru⟩ := vals1 r
  obtain rfl : u = Value.ref a := ru
  obtain ⟨z, lo, ws, rel, dd⟩ := dk_rd I.hok hd
  obtain ⟨ep, hat⟩ := dd.dictAt
  have hl : kvs.length = ws.length := Paired.length rel
  refine Calls.call_function_entry kind_sorted plain_sorted entry_sorted (args_sorted1 _) ?_
  unfold Builtin.«sorted»
  refine wpAny_bind (m := checkCount "sorted" 1 1 _) (wpAny_pure ?_)
  refine wpAny_bind (PySem.W.kdu_collect (A := X.A.in1) (PySem.W.kdl_dict (knd := mixKind X.prog X.w) (kvs := ws) (ep := ep) lo) (I.ok.hd hc) hat (by rw [← hl]; exact z) fun h' tk acc hk hacc => ?_)
  have hal2 : acc.toList.length = (kvs.map (·.1)).length := by rw [Array.length_toList, hacc.1, List.length_map, hl]
  have hE : PySem.W.EachIs (fun v k => (mixKind X.prog X.w).is k v = true) acc.toList (kvs.map (·.1)) := eachIs_at hal2 fun j v k e1 e2 => by
    obtain ⟨k', x, e3, e4⟩ := hacc.2 j v (by rw [← Array.getElem?_toList]; exact e1)
    rw [KV.keys rel, List.getElem?_map, e3] at e2
    cases e2
    exact e4
  have I1 : Inv X pins σ H { s with heap := h', toks := tk } := I.kept hk
  have hlen : (kvs.map (·.1)).length ≤ sizeLine := by rw [List.length_map]; exact z
  refine wpAny_bind (wpAny_newList ?_ (by rw [hal2]; exact hlen))
  have hoL : (h'.push (seqObj "list" acc.toList.toArray 0)).get? h'.objs.size = some (seqObj "list" acc.toList.toArray 0) := Heap.get?_push_size _ rfl
  have hal3 : PySem.W.AllAlike ((kvs.map (·.1)).map fun k => toPy (kD k)) := by
    have := alk_all hal
    rw [List.map_map] at this
    rw [List.map_map]
    exact this
  have hso : PySem.W.Sortable ((kvs.map (·.1)).map fun k => toPy (kD k)) := .inr fun d hd => by
    obtain ⟨k, _, rfl⟩ := List.mem_map.mp hd
    cases k with
    | inl i => exact ⟨(fun z => nomatch z), fun xs z => nomatch z⟩
    | inr x => exact ⟨(fun z => nomatch z), fun xs z => nomatch z⟩
  refine wpAny_bind (wpAny_holding (PySem.W.list_sort_data (s := { s with heap := h'.push (seqObj "list" acc.toList.toArray 0), toks := tk }) (bs := kvs.map (·.1)) (enc := fun k => toPy (kD k)) hoL hE (eachIs_and hE fun v k _ e => ⟨[], reads_key e, by simp⟩) hal3 hso hlen (fun k _ => by have := depth_key k; show X.A.units + 1 + 1 + (toPy (kD k)).depth < cLine; omega) fun out e1 e2 => ?_))
  obtain ⟨c, hcx⟩ := sortedHeap_at (vs := acc.toList) (out := out.toArray) hoL
  have hv := vals_of_eachK e2
  have hlen3 : (((kvs.map (·.1)).mergeSort fun j k => leD (kD j) (kD k)).map kV).length ≤ sizeLine := by rw [List.length_map, List.length_mergeSort]; exact hlen
  have hv2 : Vals (((kvs.map (·.1)).mergeSort fun j k => leD (kD j) (kD k)).map kV) out := hv
  refine wpAny_pure ⟨_, rfl, .ref h'.objs.size, _, I1.laid (t' := tk) (fun b u e => ?_) (Nat.le_refl _) (show ObjOk X.prog X.w _ _ _ (.lst (((kvs.map (·.1)).mergeSort fun j k => leD (kD j) (kD k)).map kV)) from ⟨hlen3, out, c, hv2, hcx⟩), rfl, q _ (I1.hok.fresh (Nat.le_refl _))⟩
  have hb : b < h'.objs.size := Heap.lt_size e
  rw [sortedHeap_old (Nat.ne_of_lt hb) (by rw [size_push']; exact Nat.lt_succ_of_lt hb)]
  exact Heap.get?_push_of_some _ e
def rSortedDT : List V → Hp → VK → Prop := fun vs H Q => ∃ (a : Addr) (kvs : List (List Key × V)), vs = [.ref a] ∧ Rd H a (.dT kvs) ∧ alkD (kvs.map fun kv => tD kv.1) = true ∧ (∀ kv ∈ kvs, kv.1 ≠ []) ∧
  ∀ p (bs : List (Addr × List Key)), H p = none → (∀ b ∈ bs, H b.1 = some (.tup (b.2.map kV))) → bs.map (·.2) = ((kvs.map (·.1)).mergeSort fun j k => leD (tD j) (tD k)) → Q (.ref p) (upd H p (.lst (bs.map fun b => .ref b.1)))
theorem eachIs_sndfst {P : Program} {w : World} {h : Heap} : ∀ {us : List Value} {bs : List (Addr × List Key)}, PySem.W.EachIs (fun v (b : Addr × List Key) => v = Value.ref b.1) us bs → Vals (bs.map fun b => V.ref b.1) us
  | _, _, .nil => .nil
  | _, _, .cons r t => .cons r (eachIs_sndfst (P := P) (w := w) (h := h) t)
theorem kt_pairs {H : Hp} : ∀ {kvs : List (List Key × V)} {xs : List (List Key × Addr × Value)}, L2.KT H kvs xs → (∀ x ∈ xs, H x.2.1 = some (.tup (x.1.map kV))) ∧ xs.map (·.1) = kvs.map (·.1)
  | _, _, .nil => ⟨(fun x m => nomatch m), rfl⟩
  | _, _, .cons h t => by
    obtain ⟨a, b⟩ := kt_pairs t
    refine ⟨fun x m => ?_, by rw [List.map_cons, List.map_cons, b, h.1]⟩
    rcases List.mem_cons.mp m with rfl | m
    · rw [← h.1]; exact h.2.1
    · exact a x m
theorem cr_sortedDT (hc : X.calm = true) (hu : X.A.units + 64 < cLine) : CallR X (.builtin "sorted") rSortedDT := by
  intro pins s σ H vs us Q I r h
  obtain ⟨a, kvs, rfl, hd, hal, hne, q⟩ := h
  obtain ⟨u, rfl, ru⟩ := vals1 r
  obtain rfl : u = Value.ref a := ru
  obtain ⟨z, lo, xs, pr, o, es, ep, ho, hx, hdt, he, hn⟩ := (show ObjOk X.prog X.w H s.heap a (.dT kvs) from hd.ok I.hok)
  have l1 : es.size = xs.length := size_of_entries he
  have l2 : kvs.length = xs.length := Paired.length pr
  obtain ⟨k1, k2⟩ := kt_pairs pr
  refine Calls.call_function_entry kind_sorted plain_sorted entry_sorted (args_sorted1 _) ?_
  unfold Builtin.«sorted»
  refine wpAny_bind (m := checkCount "sorted" 1 1 _) (wpAny_pure ?_)
  refine wpAny_bind (PySem.W.kdu_collect (A := X.A.in1) (kdl_raw lo hx hdt) (I.ok.hd hc) ho (by omega) fun h' tk acc hk hacc => ?_)
  obtain ⟨bs, hbs⟩ : ∃ bs : List (Addr × List Key), bs = xs.map fun x => (x.2.1, x.1) := ⟨_, rfl⟩
  have bl : bs.length = xs.length := by rw [hbs, List.length_map]
  have hal2 : acc.toList.length = bs.length := by rw [Array.length_toList, hacc.1, bl]; exact l1
  have hE : PySem.W.EachIs (fun v (b : Addr × List Key) => v = Value.ref b.1) acc.toList bs := eachIs_at hal2 fun j v b e1 e2 => by
    obtain ⟨en, hen, hv⟩ := hacc.2 j v (by rw [← Array.getElem?_toList]; exact e1)
    have qe := entry_at he j
    rw [hen] at qe
    rw [hbs, List.getElem?_map] at e2
    cases hb : xs[j]? with
    | none => rw [hb] at e2; cases e2
    | some x =>
      rw [hb] at e2 qe
      have e3 : en = entryOfKey (tupleKind (mixKind X.prog X.w)) x := Option.some.inj qe
      cases e2
      rw [hv, e3]
      rfl
  have memb : ∀ b ∈ bs, H b.1 = some (.tup (b.2.map kV)) ∧ b.2 ≠ [] := fun b hb => by
    rw [hbs] at hb
    obtain ⟨x, hx, rfl⟩ := List.mem_map.mp hb
    refine ⟨k1 x hx, ?_⟩
    have : x.1 ∈ kvs.map (·.1) := by rw [← k2]; exact List.mem_map.mpr ⟨x, hx, rfl⟩
    obtain ⟨kv, hkv, e⟩ := List.mem_map.mp this
    show x.1 ≠ []
    rw [← e]
    exact hne kv hkv
  have ekeys : bs.map (·.2) = kvs.map (·.1) := by rw [hbs, List.map_map, ← k2]; rfl
  have I1 : Inv X pins σ H { s with heap := h', toks := tk } := I.kept hk
  have hlen : bs.length ≤ sizeLine := by omega
  refine wpAny_bind (wpAny_newList ?_ (by rw [hal2]; exact hlen))
  have hoL : (h'.push (seqObj "list" acc.toList.toArray 0)).get? h'.objs.size = some (seqObj "list" acc.toList.toArray 0) := Heap.get?_push_size _ rfl
  have hal3 : PySem.W.AllAlike (bs.map fun b => toPy (tD b.2)) := by
    have h1 := alk_all hal
    have : (bs.map fun b => toPy (tD b.2)) = (kvs.map fun kv => tD kv.1).map toPy := by
      have e1 : (bs.map fun b => toPy (tD b.2)) = (bs.map (·.2)).map fun k => toPy (tD k) := by rw [List.map_map]; rfl
      rw [e1, ekeys, List.map_map, List.map_map]
      rfl
    rw [this]
    exact h1
  have hso : PySem.W.Sortable (bs.map fun b => toPy (tD b.2)) := .inl fun d hd => by
    obtain ⟨b, hb, rfl⟩ := List.mem_map.mp hd
    exact tup_head (memb b hb).2
  refine wpAny_bind (wpAny_holding (PySem.W.list_sort_data (s := { s with heap := h'.push (seqObj "list" acc.toList.toArray 0), toks := tk }) (bs := bs) (enc := fun b => toPy (tD b.2)) hoL hE (eachIs_and hE fun v b m e => ⟨[], ?_, by simp⟩) hal3 hso hlen (fun b _ => by have := depth_tD b.2; show X.A.units + 1 + 1 + (toPy (tD b.2)).depth < cLine; omega) fun out e1 e2 => ?_))
  · rw [e]
    have kk : PD.KT X.prog X.w s.heap b.2 b.1 := key_of I.hok (memb b m).1
    obtain ⟨o, items, n, ho, r⟩ := kk
    exact reads_tup (P := X.prog) (w := X.w) ⟨o, items, n, Heap.get?_push_of_some _ (hk _ _ ho), r⟩
  obtain ⟨c, hcx⟩ := sortedHeap_at (vs := acc.toList) (out := out.toArray) hoL
  have hv := eachIs_sndfst (P := X.prog) (w := X.w) (h := h') e2
  have hlen3 : ((bs.mergeSort (PySem.W.dataLe false fun b => toPy (tD b.2))).map fun b => V.ref b.1).length ≤ sizeLine := by rw [List.length_map, List.length_mergeSort]; exact hlen
  have e4 : (bs.mergeSort (PySem.W.dataLe false fun b => toPy (tD b.2))).map (·.2) = ((kvs.map (·.1)).mergeSort fun j k => leD (tD j) (tD k)) := by
    rw [← ekeys]
    exact PySem.W.sort_maps (r := PySem.W.dataLe false fun b : Addr × List Key => toPy (tD b.2)) (s := fun j k => leD (tD j) (tD k)) (fun b : Addr × List Key => b.2) fun a _ b _ => by rw [PySem.W.dataLe_eq]; rfl
  refine wpAny_pure ⟨_, rfl, .ref h'.objs.size, _, I1.laid (t' := tk) (fun b u e => ?_) (Nat.le_refl _) (show ObjOk X.prog X.w _ _ _ (.lst ((bs.mergeSort (PySem.W.dataLe false fun b => toPy (tD b.2))).map fun b => V.ref b.1)) from ⟨hlen3, out, c, hv, hcx⟩), rfl,
    q _ _ (I1.hok.fresh (Nat.le_refl _)) (fun b hb => (memb b ((List.mergeSort_perm _ _).mem_iff.mp hb)).1) e4⟩
  have hb : b < h'.objs.size := Heap.lt_size e
  rw [sortedHeap_old (Nat.ne_of_lt hb) (by rw [size_push']; exact Nat.lt_succ_of_lt hb)]
  exact Heap.get?_push_of_some _ e
end
end PD
set_option Elab.async false
set_option linter.all false
set_option maxRecDepth 100000
set_option maxHeartbeats 2000000
namespace PD
open PySem PySem.Spec PyProof.Rows L2
section
variable {X : Cx} {K : PySem.W.Frag} {pl : Option (Addr × Addr)} {C : Cn} {σ : L2.St} {H : Hp} {Q : VK} {ta : DE} {t : DA}
theorem fzk_alk : ∀ {kvs : List (Key × V)} {kds : List (Key × D)} {B : Hp}, FzK K pl B kvs kds → kvs.map (·.1) = kds.map (·.1)
  | _, _, _, .nil => rfl
  | _, _, _, .cons f r => by rw [List.map_cons, List.map_cons, fzk_alk r]
theorem fzt_alk : ∀ {kvs : List (List Key × V)} {kds : List (List Key × D)} {B : Hp}, FzT K pl B kvs kds → kvs.map (·.1) = kds.map (·.1)
  | _, _, _, .nil => rfl
  | _, _, _, .cons f r => by rw [List.map_cons, List.map_cons, fzt_alk r]
theorem rd_vis {a : Addr} {o : HO} (h : Rd (vis pl H) a o) : Rd H a o := h.elim (fun z => .inl (of_vis z).2) fun ⟨u, z⟩ => .inr ⟨u, (of_vis z).2⟩
/-- sorted(d), keys whole numbers or texts -/
def fSortedK (es : List D) (R : D → Prop) : Prop := match es with
  | [.dK kds] => alkD ((kds.map (·.1)).map kD) = true ∧ R (.lst (((kds.map (·.1)).mergeSort fun j k => leD (kD j) (kD k)).map kD))
  | _ => False
theorem cd_sortedK : CaD K pl rSortedDK fSortedK := fun xs es H Q R po f h q => by
  match es, f, h with
  | [.dK kds], .cons (.dK (a := a) (kvs := kvs) ha fl) .nil, h =>
    have e := fzk_alk fl
    refine ⟨a, kvs, rfl, rd_vis ha, ?_, fun p hp => ?_⟩
    · rw [← h.1, ← e, List.map_map]
      rfl
    · rw [e]
      exact q _ _ _ h.2 (.new hp) (.lst (nw_new (notHid po hp) hp upd_same rfl) (fz_keys _))
/-- sorted(d), keys tuples of such -/
def fSortedT (es : List D) (R : D → Prop) : Prop := match es with
  | [.dT kds] => (alkD ((kds.map (·.1)).map tD) = true ∧ (kds.map (·.1)).all (fun k => !k.isEmpty) = true) ∧ R (.lst (((kds.map (·.1)).mergeSort fun j k => leD (tD j) (tD k)).map tD))
  | _ => False
theorem fzl_refs {B : Hp} : ∀ {bs : List (Addr × List Key)}, (∀ b ∈ bs, B b.1 = some (.tup (b.2.map kV))) → FzL K pl B (bs.map fun b => V.ref b.1) ((bs.map (·.2)).map tD)
  | [], _ => .nil
  | b :: bs, h => .cons (.tup (.inl (h b (List.mem_cons_self ..))) (fz_keys _)) (fzl_refs fun c m => h c (List.mem_cons_of_mem _ m))
theorem tup_nw {H' : Hp} {b : Addr} {xs : List V} (po : PoolOk pl H) (e : Xt pl H H') (h : H b = some (.tup xs)) : nw pl H H' b = some (.tup xs) := by
  refine nw_tup (fun ⟨⟨a, aL⟩, e1, z⟩ => ?_) h
  obtain ⟨_, _, _, _, _, _, q1, q2, _⟩ := po a aL e1
  rcases z with z | z
  · rw [show b = a from z, q1] at h; cases h
  · rw [show b = aL from z, q2] at h; cases h
theorem cd_sortedT : CaD K pl rSortedDT fSortedT := fun xs es H Q R po f h q => by
  match es, f, h with
  | [.dT kds], .cons (.dT (a := a) (kvs := kvs) ha fl) .nil, h =>
    have e := fzt_alk fl
    refine ⟨a, kvs, rfl, rd_vis ha, ?_, fun kv hkv => ?_, fun p bs hp hb eb => ?_⟩
    · rw [← h.1.1, ← e, List.map_map]
      rfl
    · have m : kv.1 ∈ kds.map (·.1) := by rw [← e]; exact List.mem_map.mpr ⟨kv, hkv, rfl⟩
      have := List.all_eq_true.mp h.1.2 _ m
      intro z
      rw [z] at this
      cases this
    · rw [e] at eb
      refine q _ _ _ h.2 (.new hp) (.lst (nw_new (notHid po hp) hp upd_same rfl) ?_)
      rw [← eb]
      exact fzl_refs fun b m => tup_nw po (.new hp) (hb b m)
/-- list(d) -/
def fListK (es : List D) (R : D → Prop) : Prop := match es with
  | [.dK kds] => R (.lst ((kds.map (·.1)).map kD))
  | _ => False
theorem cd_listK : CaD K pl (fun xs H Q => ∃ (a : Addr) (kvs : List (Key × V)), xs = [.ref a] ∧ Rd H a (.dK kvs) ∧ ∀ p, H p = none → Q (.ref p) (upd H p (.lst (kvs.map fun kv => kV kv.1)))) fListK := fun xs es H Q R po f h q => by
  match es, f, h with
  | [.dK kds], .cons (.dK (a := a) (kvs := kvs) ha fl) .nil, h =>
    refine ⟨a, kvs, rfl, rd_vis ha, fun p hp => ?_⟩
    have e : (kvs.map fun kv => kV kv.1) = (kds.map (·.1)).map kV := by rw [← fzk_alk fl, List.map_map]; rfl
    rw [e]
    exact q _ _ _ h (.new hp) (.lst (nw_new (notHid po hp) hp upd_same rfl) (fz_keys _))
def fListT (es : List D) (R : D → Prop) : Prop := match es with
  | [.dT kds] => R (.lst ((kds.map (·.1)).map tD))
  | _ => False
theorem isKeys_bs : ∀ {kvs : List (List Key × V)} {bs : List Addr}, IsKeys H kvs bs → ∃ cs : List (Addr × List Key), bs = cs.map (·.1) ∧ cs.map (·.2) = kvs.map (·.1) ∧ ∀ c ∈ cs, H c.1 = some (.tup (c.2.map kV))
  | _, _, .nil => ⟨[], rfl, rfl, fun c m => nomatch m⟩
  | kv :: _, b :: _, .cons h t => by
    obtain ⟨cs, h1, h2, h3⟩ := isKeys_bs t
    refine ⟨(b, kv.1) :: cs, by rw [List.map_cons, ← h1], by rw [List.map_cons, List.map_cons, h2], fun c m => ?_⟩
    rcases List.mem_cons.mp m with rfl | m
    · exact h
    · exact h3 c m
theorem cd_listT : CaD K pl (fun xs H Q => ∃ d kvs, xs = [V.ref d] ∧ Rd H d (.dT kvs) ∧ ∀ p bs, H p = none → IsKeys H kvs bs → Q (.ref p) (upd H p (.lst (bs.map V.ref)))) fListT := fun xs es H Q R po f h q => by
  match es, f, h with
  | [.dT kds], .cons (.dT (a := a) (kvs := kvs) ha fl) .nil, h =>
    refine ⟨a, kvs, rfl, rd_vis ha, fun p bs hp hb => ?_⟩
    obtain ⟨cs, h1, h2, h3⟩ := isKeys_bs hb
    have e : bs.map V.ref = cs.map fun c => V.ref c.1 := by rw [h1, List.map_map]; rfl
    rw [e]
    refine q _ _ _ h (.new hp) (.lst (nw_new (notHid po hp) hp upd_same rfl) ?_)
    rw [← fzt_alk fl, ← h2]
    exact fzl_refs fun c m => tup_nw po (.new hp) (h3 c m)
/-- isinstance(x, T) -/
def tyN : D → Option String
  | .non => some "NoneType"
  | .bl _ => some "bool"
  | .int _ => some "int"
  | .str _ => some "str"
  | .tup _ => some "tuple"
  | .lst _ => some "list"
  | _ => none
def fIsi (es : List D) (R : D → Prop) : Prop := match es with
  | [d, .ty n] => ∃ s b, tyN d = some s ∧ kitB s n = some b ∧ R (.bl b)
  | _ => False
theorem fz_ty {v : V} {d : D} {s : String} (f : Fz K pl (vis pl H) v d) (h : tyN d = some s) : TyX K H v (.type s) := by
  cases f with
  | non => cases h; exact .base .non
  | bl b => cases h; exact .base (.bl b)
  | int i => cases h; exact .base (.int i)
  | str w => cases h; exact .base (.str _)
  | tup ha _ =>
    cases h
    rcases ha with ha | ⟨_, o, its, n, h1, h2, _⟩
    · exact .base (.tup (of_vis ha).2)
    · exact .kTuple h1 h2
  | lst ha _ => cases h; exact .base (.lst (of_vis ha).2)
  | dK _ _ => cases h
  | dT _ _ => cases h
  | pool _ => cases h
  | ty _ => cases h
theorem cd_isi : CaD K pl (rIsi K) fIsi := fun xs es H Q R po f h q => by
  match es, f, h with
  | [d, .ty n], .cons f1 (.cons (.ty _) .nil), h =>
    obtain ⟨s, b, h1, h2, h3⟩ := h
    exact ⟨_, _, .type s, .type n, b, rfl, .ty n, fz_ty f1 h1, kit_ty h2, q _ _ H h3 (Xt.refl _ _) (.bl b)⟩
/-- l.index(x) -/
theorem fzl_dpA {B : Hp} (sub : ∀ a o, B a = some o → H a = some o) {n : Nat} {vs : List V} {ds : List D} (f : FzL K pl B vs ds) (h : shL n ds = true) : DpAll K H vs (toPyL ds) := fz_dpL sub f h
theorem toPyL_get : ∀ {ds : List D} {j : Nat}, (toPyL ds)[j]? = (ds[j]?).map toPy
  | [], j => by simp [toPyL]
  | d :: ds, 0 => by simp [toPyL]
  | d :: ds, j + 1 => by simp only [toPyL, List.getElem?_cons_succ]; exact toPyL_get
theorem shapedL {ds : List D} (h : shL 60 ds = true) : SeqAt.shaped (.list (toPyL ds)) = true := by
  have : sh 61 (.lst ds) = true := by unfold sh; exact h
  have := sh_shaped this
  simpa only [toPy] using this
def dIdx (ta : DE) (t : DA) : DE := fun δ R => ta δ fun d => match d with
  | .lst ds => t δ fun es => match es with
    | [x] => (shL 60 ds = true ∧ sh 60 x = true) ∧ match idx ds x with
      | some j => R (.int (j : Nat))
      | none => False
    | _ => False
  | _ => False
theorem cv_index : lift C .n (dIdx ta t) σ H Q → tBM C.K "list" (rIndexD C.K) (lift C .e ta) (liftA C .e t) σ H Q := fun ⟨H0, F, δ, R, S, h, q⟩ => by
  refine ⟨H0, F, δ, _, S, h, fun d v H1 r1 e1 f1 => ?_⟩
  cases f1 with
  | lst ha fl =>
    rename_i a vs ds
    refine ⟨.inl ⟨rfl, vs, .inl (.inl (of_vis ha).2)⟩, H0, F, δ, _, S.ext e1, r1, fun es ws H2 r2 e2 f2 => ?_⟩
    match es, f2, r2 with
    | [x], .cons fx .nil, r2 =>
      obtain ⟨⟨hd, hx⟩, r2⟩ := r2
      cases hi : idx ds x with
      | none => rw [hi] at r2; exact r2.elim
      | some j =>
        rw [hi] at r2
        obtain ⟨hj, e3, e4⟩ := List.findIdx?_eq_some_iff_getElem.mp hi
        have sv : ∀ a o, vis C.pl H2 a = some o → H2 a = some o := fun a o h => (of_vis h).2
        refine ⟨a, _, toPy x, toPyL ds, j, toPy ds[j], rfl, rfl, .lst (.inl (.inl (e2.sub a _ (of_vis ha).1 (of_vis ha).2))) (fzl_dpA sv (fl.mono (vis_mono e2)) hd), fz_dp sv fx hx, shapedL hd, sh_shaped hx, by rw [toPyL_get, List.getElem?_eq_getElem hj]; rfl, e3, fun m z hm hz => ?_, q _ _ H2 r2 (e1.trans e2) (.int _)⟩
        rw [toPyL_get, List.getElem?_eq_getElem (Nat.lt_trans hm hj)] at hz
        cases hz
        have := e4 m hm
        simpa [eqb] using this
  | _ => exact r1.elim
end
end PD
set_option Elab.async false
set_option linter.all false
set_option maxRecDepth 100000
set_option maxHeartbeats 2000000
namespace PD
open PySem PySem.Spec PyProof.Rows L2
section
variable {X : Cx}
/-- name = {k: v for ..} on one line, the name a local -/
theorem ps_setDc {i : Nat} {y : Str} {py : Pos} {kx vx tg iter : Expr} {ifs : List Expr} {scope : Scope} {own : List (Str × Nat)} {pos spos : Pos} {wi : TI} {g : TG} {tt : TT} {tk tv : TE} {o0 : HO} (ho0 : o0 = .dK [] ∨ o0 = .dT []) (hc : X.calm = true) (hu : X.A.units + 1 < cLine) (hN : X.N.Nodup) (hy : X.N[i]? = some y) (hyl : X.env.scope.names.lookup y = some .local)
    (hsw : swapsWith (.DictComp kx vx [⟨tg, iter, ifs, 0⟩] scope pos) (some (.Name y py)) spos.line X.env = pure true) (hi : PI X tg iter wi) (ok : BlkOk X.N X.env.scope scope own)
    (hg : ∀ (s : Shared) (H : Hp) (C : Addr) (cl : List (Str × Addr)) (fp : List Addr), PG (X.blk s H scope (compEnvC scope cl C X.env) fp) tg g) (ht : ∀ (s : Shared) (H : Hp) (C : Addr) (cl : List (Str × Addr)) (fp : List Addr), PTs (X.blk s H scope (compEnvC scope cl C X.env) fp) ifs tt)
    (hk : ∀ (s : Shared) (H : Hp) (C : Addr) (cl : List (Str × Addr)) (fp : List Addr), PE (X.blk s H scope (compEnvC scope cl C X.env) fp) kx tk)
    (he : ∀ (s : Shared) (H : Hp) (C : Addr) (cl : List (Str × Addr)) (fp : List Addr), PE (X.blk s H scope (compEnvC scope cl C X.env) fp) vx tv) (hs : ∀ x, foldedSetIterable iter X.env x = pure x := by intro _; rfl) :
    PS X (.Assign [.Name y py] (.DictComp kx vx [⟨tg, iter, ifs, 0⟩] scope pos) spos) (tAsg (tDcP o0 wi g tt tk tv (own.map (·.2))) (gName i)) := by
  refine ⟨fun pins s σ H D I h => ?_⟩
  rw [exec_Assign_Name_used _ _ _ _ hsw]
  refine wpAny_bind (wpAny_standAt (wpAny_bind ?_))
  show wpAny _ X.A (do let _ ← comprehension (.DictComp kx vx [⟨tg, iter, ifs, 0⟩] scope pos) scope X.env (firstIterPos [⟨tg, iter, ifs, 0⟩] pos) newDict false (eval iter X.env) (some (assign (.Name y py) X.env))) _ _ s
  have h : tDcP o0 wi g tt tk tv (own.map (·.2)) σ H (fun x H1 => gName i x σ H1 D.nx) := h
  refine wpAny_bind (thn (dcP_core (Qf := fun _ s' => SP X pins D .next s') ho0 hc hu hN I hi ok hg ht hk he hs h fun L C s' m H' I' q hn f => ?_) fun _ s' hq => wpAny_pure (wpAny_pure hq))
  show wpAny _ _ (assign (.Name y py) X.env (.ref L)) _ _ _
  refine wpAny_assign_Name (store_ok2 (v := V.ref L) I' hN hy (.inl hyl) rfl (fun s2 I2 ⟨a, sb, ha⟩ => ?_) (.inr hyl))
  obtain ⟨f0, f1, f2, f3, f4, f5⟩ := f
  have aC : C ≠ a := by
    rcases ha with z | z
    · rw [z]; exact f1
    · exact fun e => f4 y a z e.symm
  refine ⟨m, hn.sameBut sb aC, fun h3 sb3 => ?_⟩
  exact ⟨_, H', I2.turned (t' := s2.toks) (fun b o hb e => (sb3.2 b hb).trans e) f0 f1 f3 f4 f5, q⟩
theorem swD_true {kx vx : Expr} {gs : List Comprehension} {scope : Scope} {pos py : Pos} {y : Str} {l : Nat} {env : Env} (hk : env.scope.kind = .function) (hy : env.scope.names.lookup y = some .local) (hl : (py.line == pos.line) = true)
    (ha : (scope.names.any fun (n, k) => n == y && (k == .local || k == .cell)) = false) : swapsWith (.DictComp kx vx gs scope pos) (some (.Name y py)) l env = pure true := by
  have ky : env.kindOf y = some .local := hy
  have hb : env.blockKind = .function := by unfold Env.blockKind; rw [hk]; rfl
  unfold swapsWith
  simp only [hb, ky, ha, Expr.pos, hl]
  rfl
end
end PD
set_option Elab.async false
set_option linter.all false
set_option maxRecDepth 100000
set_option maxHeartbeats 4000000
namespace PD
open PySem PySem.Spec PyProof.Rows L2
/-! ### the text, by places -/
def topS (i : Nat) : Stmt := PySem.Challenge.pw_eachtoone_k38_whole_rows_read_back.main.body.getD i (.Pass ⟨0, 0, 0, 0⟩)
abbrev S_ordered : Stmt := topS 2
def D_ordered : He.DefD := ⟨("ordered", none), "ordered", "ordered", defArgs S_ordered, defBody S_ordered, defScope S_ordered, [], []⟩
abbrev S_exchanged : Stmt := topS 3
def D_exchanged : He.DefD := ⟨("exchanged", none), "exchanged", "exchanged", defArgs S_exchanged, defBody S_exchanged, defScope S_exchanged, [], []⟩
abbrev S_fine : Stmt := topS 4
def D_fine : He.DefD := ⟨("fine", none), "fine", "fine", defArgs S_fine, defBody S_fine, defScope S_fine, [], []⟩
abbrev S_rests_of : Stmt := topS 6
def D_rests_of : He.DefD := ⟨("rests_of", none), "rests_of", "rests_of", defArgs S_rests_of, defBody S_rests_of, defScope S_rests_of, [], []⟩
abbrev S_grown : Stmt := topS 7
def D_grown : He.DefD := ⟨("grown", none), "grown", "grown", defArgs S_grown, defBody S_grown, defScope S_grown, [], []⟩
abbrev S_search : Stmt := topS 8
def D_search : He.DefD := ⟨("search", none), "search", "search", defArgs S_search, defBody S_search, defScope S_search, [], []⟩
abbrev S_rests : Stmt := topS 9
def D_rests : He.DefD := ⟨("rests", none), "rests", "rests", defArgs S_rests, defBody S_rests, defScope S_rests, [], []⟩
abbrev S_two_rows : Stmt := topS 10
def D_two_rows : He.DefD := ⟨("two_rows", none), "two_rows", "two_rows", defArgs S_two_rows, defBody S_two_rows, defScope S_two_rows, [], []⟩
abbrev S_spelled : Stmt := topS 11
def D_spelled : He.DefD := ⟨("spelled", none), "spelled", "spelled", defArgs S_spelled, defBody S_spelled, defScope S_spelled, [], []⟩
abbrev S_coder : Stmt := topS 12
def D_coder : He.DefD := ⟨("coder", none), "coder", "coder", defArgs S_coder, defBody S_coder, defScope S_coder, [], []⟩
abbrev S_spread : Stmt := topS 14
def D_spread : He.DefD := ⟨("spread", none), "spread", "spread", defArgs S_spread, defBody S_spread, defScope S_spread, [], []⟩
abbrev S_read_on : Stmt := topS 15
def D_read_on : He.DefD := ⟨("read_on", none), "read_on", "read_on", defArgs S_read_on, defBody S_read_on, defScope S_read_on, [], []⟩
abbrev S_reading : Stmt := topS 16
def D_reading : He.DefD := ⟨("reading", none), "reading", "reading", defArgs S_reading, defBody S_reading, defScope S_reading, [], []⟩
abbrev S_counts : Stmt := topS 17
def D_counts : He.DefD := ⟨("counts", none), "counts", "counts", defArgs S_counts, defBody S_counts, defScope S_counts, [], []⟩
abbrev S_count : Stmt := topS 18
def D_count : He.DefD := ⟨("count", none), "count", "count", defArgs S_count, defBody S_count, defScope S_count, [], []⟩
abbrev S_steps_from : Stmt := topS 20
def D_steps_from : He.DefD := ⟨("steps_from", none), "steps_from", "steps_from", defArgs S_steps_from, defBody S_steps_from, defScope S_steps_from, [], []⟩
abbrev S_outputs : Stmt := topS 21
def D_outputs : He.DefD := ⟨("outputs", none), "outputs", "outputs", defArgs S_outputs, defBody S_outputs, defScope S_outputs, [], []⟩
abbrev S__law_same : Stmt := topS 23
def D__law_same : He.DefD := ⟨("_law_same", none), "_law_same", "_law_same", defArgs S__law_same, defBody S__law_same, defScope S__law_same, [], []⟩
abbrev S__law_pool : Stmt := topS 24
def D__law_pool : He.DefD := ⟨("_law_pool", none), "_law_pool", "_law_pool", defArgs S__law_pool, defBody S__law_pool, defScope S__law_pool, [], []⟩
abbrev S__law_spread : Stmt := topS 25
def D__law_spread : He.DefD := ⟨("_law_spread", none), "_law_spread", "_law_spread", defArgs S__law_spread, defBody S__law_spread, defScope S__law_spread, [], []⟩
abbrev S__law_draw : Stmt := topS 26
def D__law_draw : He.DefD := ⟨("_law_draw", none), "_law_draw", "_law_draw", defArgs S__law_draw, defBody S__law_draw, defScope S__law_draw, [], []⟩
abbrev S__law_pick : Stmt := topS 27
def D__law_pick : He.DefD := ⟨("_law_pick", none), "_law_pick", "_law_pick", defArgs S__law_pick, defBody S__law_pick, defScope S__law_pick, [], []⟩
abbrev S__law_word : Stmt := topS 28
def D__law_word : He.DefD := ⟨("_law_word", none), "_law_word", "_law_word", defArgs S__law_word, defBody S__law_word, defScope S__law_word, [], []⟩
abbrev S__law_code : Stmt := topS 29
def D__law_code : He.DefD := ⟨("_law_code", none), "_law_code", "_law_code", defArgs S__law_code, defBody S__law_code, defScope S__law_code, [], []⟩
abbrev S__law_rows_of : Stmt := topS 30
def D__law_rows_of : He.DefD := ⟨("_law_rows_of", none), "_law_rows_of", "_law_rows_of", defArgs S__law_rows_of, defBody S__law_rows_of, defScope S__law_rows_of, [], []⟩
abbrev S_law : Stmt := topS 31
def D_law : He.DefD := ⟨("law", none), "law", "law", defArgs S_law, defBody S_law, defScope S_law, [], []⟩
def fn : List He.DefD := [D_ordered, D_exchanged, D_fine, D_rests_of, D_grown, D_search, D_rests, D_two_rows, D_spelled, D_coder, D_spread, D_read_on, D_reading, D_counts, D_count, D_steps_from, D_outputs, D__law_same, D__law_pool, D__law_spread, D__law_draw, D__law_pick, D__law_word, D__law_code, D__law_rows_of, D_law]
def fa : List He.Fa := [.glo "ordered", .glo "exchanged", .glo "fine", .glo "rests_of", .glo "grown", .glo "search", .glo "rests", .glo "two_rows", .glo "spelled", .glo "coder", .glo "spread", .glo "read_on", .glo "reading", .glo "counts", .glo "count", .glo "steps_from", .glo "outputs", .glo "_law_same", .glo "_law_pool", .glo "_law_spread", .glo "_law_draw", .glo "_law_pick", .glo "_law_word", .glo "_law_code", .glo "_law_rows_of", .glo "law", .free "len", .free "range", .free "sorted", .free "set", .free "list", .free "tuple", .free "isinstance", .free "any", .free "sum", .free "min", .free "int", .free "str", .free "bool", .str "LETTERS" "abc"]
structure Facts (K : PySem.W.Frag) (mg : Str → Option Value) where
  a__law_pool : Addr
  d__law_pool : FuncData
  F__law_pool : FunD K "_law_pool" "_law_pool" (defArgs S__law_pool) (defBody S__law_pool) (defScope S__law_pool) [] [] a__law_pool d__law_pool
  g__law_pool : mg "_law_pool" = some (.ref a__law_pool)
  a_ordered : Addr
  d_ordered : FuncData
  F_ordered : FunD K "ordered" "ordered" (defArgs S_ordered) (defBody S_ordered) (defScope S_ordered) [] [] a_ordered d_ordered
  g_ordered : mg "ordered" = some (.ref a_ordered)
  a_exchanged : Addr
  d_exchanged : FuncData
  F_exchanged : FunD K "exchanged" "exchanged" (defArgs S_exchanged) (defBody S_exchanged) (defScope S_exchanged) [] [] a_exchanged d_exchanged
  g_exchanged : mg "exchanged" = some (.ref a_exchanged)
  a_fine : Addr
  d_fine : FuncData
  F_fine : FunD K "fine" "fine" (defArgs S_fine) (defBody S_fine) (defScope S_fine) [] [] a_fine d_fine
  g_fine : mg "fine" = some (.ref a_fine)
  a_spread : Addr
  d_spread : FuncData
  F_spread : FunD K "spread" "spread" (defArgs S_spread) (defBody S_spread) (defScope S_spread) [] [] a_spread d_spread
  g_spread : mg "spread" = some (.ref a_spread)
  a_read_on : Addr
  d_read_on : FuncData
  F_read_on : FunD K "read_on" "read_on" (defArgs S_read_on) (defBody S_read_on) (defScope S_read_on) [] [] a_read_on d_read_on
  g_read_on : mg "read_on" = some (.ref a_read_on)
  a_reading : Addr
  d_reading : FuncData
  F_reading : FunD K "reading" "reading" (defArgs S_reading) (defBody S_reading) (defScope S_reading) [] [] a_reading d_reading
  g_reading : mg "reading" = some (.ref a_reading)
  a__law_rows_of : Addr
  d__law_rows_of : FuncData
  F__law_rows_of : FunD K "_law_rows_of" "_law_rows_of" (defArgs S__law_rows_of) (defBody S__law_rows_of) (defScope S__law_rows_of) [] [] a__law_rows_of d__law_rows_of
  g__law_rows_of : mg "_law_rows_of" = some (.ref a__law_rows_of)
  a__law_spread : Addr
  d__law_spread : FuncData
  F__law_spread : FunD K "_law_spread" "_law_spread" (defArgs S__law_spread) (defBody S__law_spread) (defScope S__law_spread) [] [] a__law_spread d__law_spread
  g__law_spread : mg "_law_spread" = some (.ref a__law_spread)
  a__law_draw : Addr
  d__law_draw : FuncData
  F__law_draw : FunD K "_law_draw" "_law_draw" (defArgs S__law_draw) (defBody S__law_draw) (defScope S__law_draw) [] [] a__law_draw d__law_draw
  g__law_draw : mg "_law_draw" = some (.ref a__law_draw)
  a__law_pick : Addr
  d__law_pick : FuncData
  F__law_pick : FunD K "_law_pick" "_law_pick" (defArgs S__law_pick) (defBody S__law_pick) (defScope S__law_pick) [] [] a__law_pick d__law_pick
  g__law_pick : mg "_law_pick" = some (.ref a__law_pick)
  a__law_word : Addr
  d__law_word : FuncData
  F__law_word : FunD K "_law_word" "_law_word" (defArgs S__law_word) (defBody S__law_word) (defScope S__law_word) [] [] a__law_word d__law_word
  g__law_word : mg "_law_word" = some (.ref a__law_word)
  a__law_code : Addr
  d__law_code : FuncData
  F__law_code : FunD K "_law_code" "_law_code" (defArgs S__law_code) (defBody S__law_code) (defScope S__law_code) [] [] a__law_code d__law_code
  g__law_code : mg "_law_code" = some (.ref a__law_code)
  a_coder : Addr
  d_coder : FuncData
  F_coder : FunD K "coder" "coder" (defArgs S_coder) (defBody S_coder) (defScope S_coder) [] [] a_coder d_coder
  g_coder : mg "coder" = some (.ref a_coder)
  a_counts : Addr
  d_counts : FuncData
  F_counts : FunD K "counts" "counts" (defArgs S_counts) (defBody S_counts) (defScope S_counts) [] [] a_counts d_counts
  g_counts : mg "counts" = some (.ref a_counts)
  a_count : Addr
  d_count : FuncData
  F_count : FunD K "count" "count" (defArgs S_count) (defBody S_count) (defScope S_count) [] [] a_count d_count
  g_count : mg "count" = some (.ref a_count)
  a_rests_of : Addr
  d_rests_of : FuncData
  F_rests_of : FunD K "rests_of" "rests_of" (defArgs S_rests_of) (defBody S_rests_of) (defScope S_rests_of) [] [] a_rests_of d_rests_of
  g_rests_of : mg "rests_of" = some (.ref a_rests_of)
  a_grown : Addr
  d_grown : FuncData
  F_grown : FunD K "grown" "grown" (defArgs S_grown) (defBody S_grown) (defScope S_grown) [] [] a_grown d_grown
  g_grown : mg "grown" = some (.ref a_grown)
  a_search : Addr
  d_search : FuncData
  F_search : FunD K "search" "search" (defArgs S_search) (defBody S_search) (defScope S_search) [] [] a_search d_search
  g_search : mg "search" = some (.ref a_search)
  a_rests : Addr
  d_rests : FuncData
  F_rests : FunD K "rests" "rests" (defArgs S_rests) (defBody S_rests) (defScope S_rests) [] [] a_rests d_rests
  g_rests : mg "rests" = some (.ref a_rests)
  a_two_rows : Addr
  d_two_rows : FuncData
  F_two_rows : FunD K "two_rows" "two_rows" (defArgs S_two_rows) (defBody S_two_rows) (defScope S_two_rows) [] [] a_two_rows d_two_rows
  g_two_rows : mg "two_rows" = some (.ref a_two_rows)
  a_steps_from : Addr
  d_steps_from : FuncData
  F_steps_from : FunD K "steps_from" "steps_from" (defArgs S_steps_from) (defBody S_steps_from) (defScope S_steps_from) [] [] a_steps_from d_steps_from
  g_steps_from : mg "steps_from" = some (.ref a_steps_from)
  a_outputs : Addr
  d_outputs : FuncData
  F_outputs : FunD K "outputs" "outputs" (defArgs S_outputs) (defBody S_outputs) (defScope S_outputs) [] [] a_outputs d_outputs
  g_outputs : mg "outputs" = some (.ref a_outputs)
  a_spelled : Addr
  d_spelled : FuncData
  F_spelled : FunD K "spelled" "spelled" (defArgs S_spelled) (defBody S_spelled) (defScope S_spelled) [] [] a_spelled d_spelled
  g_spelled : mg "spelled" = some (.ref a_spelled)
  a__law_same : Addr
  d__law_same : FuncData
  F__law_same : FunD K "_law_same" "_law_same" (defArgs S__law_same) (defBody S__law_same) (defScope S__law_same) [] [] a__law_same d__law_same
  g__law_same : mg "_law_same" = some (.ref a__law_same)
  a_law : Addr
  d_law : FuncData
  F_law : FunD K "law" "law" (defArgs S_law) (defBody S_law) (defScope S_law) [] [] a_law d_law
  g_law : mg "law" = some (.ref a_law)
  z_len : mg "len" = none
  z_range : mg "range" = none
  z_sorted : mg "sorted" = none
  z_set : mg "set" = none
  z_list : mg "list" = none
  z_tuple : mg "tuple" = none
  z_isinstance : mg "isinstance" = none
  z_any : mg "any" = none
  z_sum : mg "sum" = none
  z_min : mg "min" = none
  z_int : mg "int" = none
  z_str : mg "str" = none
  z_bool : mg "bool" = none
  c_LETTERS : ∃ t, mg "LETTERS" = some (.str "abc" t)
end PD
set_option Elab.async false
set_option linter.all false
set_option maxRecDepth 100000
set_option maxHeartbeats 2000000
namespace PD
open PySem PySem.Spec PyProof.Rows L2
/-! ### meanings opened -/
section
variable {δ : DEnv} {R : D → Prop} {RB : Bool → Prop} {RL : List D → Prop} {RO : Option Int → Prop} {DD : DEnds} {ta tb tc : DE} {t u : DA} {c c2 : DTt} {a b : DS} {i j n : Nat} {d e : D}
@[simp] theorem x_var : dVar i δ R ↔ ∃ d, δ[i]? = some (some d) ∧ R d := Iff.rfl
@[simp] theorem x_c : dC d δ R ↔ R d := Iff.rfl
@[simp] theorem x_imm : dImm ta δ R ↔ ta δ fun d => imm d = true ∧ R d := Iff.rfl
@[simp] theorem x_op {f : D → D → (D → Prop) → Prop} : dOp f ta tb δ R ↔ ta δ fun d => tb δ fun e => f d e R := Iff.rfl
@[simp] theorem x_un {f : D → (D → Prop) → Prop} : dUn f ta δ R ↔ ta δ fun d => f d R := Iff.rfl
@[simp] theorem x_cb {f : List D → (D → Prop) → Prop} : dCB f t δ R ↔ t δ fun ds => f ds R := Iff.rfl
@[simp] theorem x_call {f : DF} : dCall f t δ R ↔ t δ fun ds => f ds R := Iff.rfl
@[simp] theorem x_nil : dNil δ RL ↔ RL [] := Iff.rfl
@[simp] theorem x_cons : dCons ta t δ RL ↔ ta δ fun d => t δ fun ds => RL (d :: ds) := Iff.rfl
@[simp] theorem x_tup : dTup t δ R ↔ t δ fun ds => ds.length ≤ sizeLine ∧ R (.tup ds) := Iff.rfl
@[simp] theorem x_lst : dLst t δ R ↔ t δ fun ds => ds.length ≤ sizeLine ∧ R (.lst ds) := Iff.rfl
@[simp] theorem x_noPart : dNoPart δ RO ↔ RO none := Iff.rfl
@[simp] theorem x_part : dPart ta δ RO ↔ ta δ fun d => ∃ i, d = .int i ∧ RO (some i) := Iff.rfl
@[simp] theorem x_sl {l h : DO} : dSl ta l h δ R ↔ ta δ fun d => l δ fun lo => h δ fun hi => fSl d lo hi R := Iff.rfl
@[simp] theorem x_test : dTest ta δ RB ↔ ta δ fun d => ∃ b, d = .bl b ∧ RB b := Iff.rfl
@[simp] theorem x_and : dAnd c c2 δ RB ↔ c δ fun b => if b = true then c2 δ RB else RB false := Iff.rfl
@[simp] theorem x_or : dOr c c2 δ RB ↔ c δ fun b => if b = true then RB true else c2 δ RB := Iff.rfl
@[simp] theorem x_not : dNot c δ RB ↔ c δ fun b => RB (!b) := Iff.rfl
@[simp] theorem x_yes : dYes δ RB ↔ RB true := Iff.rfl
@[simp] theorem x_andV : dAndV ta tb δ R ↔ ta δ fun d => ∃ b, d = .bl b ∧ if b = true then tb δ R else R (.bl false) := Iff.rfl
@[simp] theorem x_orV : dOrV ta tb δ R ↔ ta δ fun d => ∃ b, d = .bl b ∧ if b = true then R (.bl true) else tb δ R := Iff.rfl
@[simp] theorem x_notV : dNotV ta δ R ↔ ta δ fun d => ∃ b, d = .bl b ∧ R (.bl (!b)) := Iff.rfl
@[simp] theorem x_if : dIf c ta tb δ R ↔ c δ fun b => if b = true then ta δ R else tb δ R := Iff.rfl
@[simp] theorem x_it : dIt ta δ RL ↔ ta δ fun d => fItems d RL := Iff.rfl
@[simp] theorem x_gname {Q : DEnv → Prop} : dgName i d δ Q ↔ Q (δ.set i (some d)) := Iff.rfl
@[simp] theorem x_seq : dSeq a b DD δ ↔ a { DD with nx := b DD } δ := Iff.rfl
@[simp] theorem x_skip : dSkip DD δ ↔ DD.nx δ := Iff.rfl
@[simp] theorem x_brk : dBrk DD δ ↔ DD.bk δ := Iff.rfl
@[simp] theorem x_cont : dCont DD δ ↔ DD.ct δ := Iff.rfl
@[simp] theorem x_ret : dRet ta DD δ ↔ ta δ DD.rt := Iff.rfl
@[simp] theorem x_retN : dRetN DD δ ↔ DD.rt .non := Iff.rfl
@[simp] theorem x_drop : dDrop ta DD δ ↔ ta δ fun _ => DD.nx δ := Iff.rfl
@[simp] theorem x_ifS : dIfS c a b DD δ ↔ c δ fun k => if k = true then a DD δ else b DD δ := Iff.rfl
@[simp] theorem x_set : dSet i ta DD δ ↔ ta δ fun d => DD.nx (δ.set i (some d)) := Iff.rfl
@[simp] theorem x_setO : dSetO i ta DD δ ↔ ta δ fun d => flatD d = true ∧ i < δ.length ∧ DD.nx (δ.set i (some d)) := Iff.rfl
@[simp] theorem x_asg {tg : DG} : dAsg tg ta DD δ ↔ ta δ fun d => tg d δ DD.nx := Iff.rfl
@[simp] theorem x_sortSet : dSortSet ta δ R ↔ ta δ fun d => fSortSet d R := Iff.rfl
@[simp] theorem x_for {ti : DA} {tg : DG} : dFor ti tg b DD δ ↔ ti δ fun xs => dForL tg b DD xs δ := Iff.rfl
@[simp] theorem x_get : dGet ta tb δ R ↔ ta δ fun d => tb δ fun e => fGet d e fun o => match o with
  | some g => R g
  | none => False := Iff.rfl
@[simp] theorem x_din : dDIn ta tb δ R ↔ ta δ fun d => tb δ fun e => fGet e d fun o => R (.bl o.isSome) := Iff.rfl
@[simp] theorem x_dnotin : dDNotIn ta tb δ R ↔ ta δ fun d => tb δ fun e => fGet e d fun o => R (.bl (!o.isSome)) := Iff.rfl
@[simp] theorem x_rng1 {n : Int} : (match ([D.int n] : List D) with
  | [.int n] => (-(2 ^ 62) ≤ n ∧ n < 2 ^ 62) ∧ RL (rngD 0 n)
  | _ => False) ↔ (-(2 ^ 62) ≤ n ∧ n < 2 ^ 62) ∧ RL (rngD 0 n) := Iff.rfl
theorem rngD_nat (n : Nat) : rngD 0 (n : Int) = (List.range n).map fun i => D.int (i : Nat) := by
  unfold rngD
  simp
theorem rngD_two (m n : Nat) : rngD (m : Int) (n : Int) = (List.range' m (n - m)).map fun i => D.int (i : Nat) := by
  unfold rngD
  have e : ((n : Int) - (m : Int)).toNat = n - m := by omega
  rw [e, List.range'_eq_map_range, List.map_map]
  apply List.map_congr_left
  intro i _
  show D.int ((m : Int) + (i : Nat)) = D.int ((m + i : Nat) : Int)
  congr 1
theorem atI_nat {α : Type} (xs : List α) (k : Nat) : atI xs (k : Int) = xs[k]? := by
  unfold atI ixN
  by_cases h : k < xs.length
  · rw [if_pos (by omega), if_pos (by omega)]
    simp
  · rw [if_pos (by omega), if_neg (by omega), List.getElem?_eq_none (by omega)]
    rfl
@[simp] theorem atI_0 {α : Type} (xs : List α) : atI xs 0 = xs[0]? := atI_nat xs 0
@[simp] theorem atI_1 {α : Type} (xs : List α) : atI xs 1 = xs[1]? := atI_nat xs 1
@[simp] theorem atI_2 {α : Type} (xs : List α) : atI xs 2 = xs[2]? := atI_nat xs 2
@[simp] theorem atI_3 {α : Type} (xs : List α) : atI xs 3 = xs[3]? := atI_nat xs 3
@[simp] theorem atI_4 {α : Type} (xs : List α) : atI xs 4 = xs[4]? := atI_nat xs 4
@[simp] theorem atI_m1 {α : Type} (xs : List α) : atI xs (-1) = xs[xs.length - 1]? := by
  unfold atI ixN
  rw [if_neg (by omega)]
  by_cases h : 0 < xs.length
  · rw [if_pos (by omega)]
    have : ((-1 : Int) + (xs.length : Int)).toNat = xs.length - 1 := by omega
    show (some _).bind _ = _
    rw [this]
    rfl
  · have : xs = [] := List.length_eq_zero_iff.mp (by omega)
    subst this
    rfl
theorem immL_iff {ds : List D} : immL ds = true ↔ ∀ d ∈ ds, imm d = true := by
  constructor
  · exact immL_mem
  · intro h
    induction ds with
    | nil => rfl
    | cons d ds ih =>
      simp only [immL, Bool.and_eq_true]
      exact ⟨h d (List.mem_cons_self ..), ih fun e m => h e (List.mem_cons_of_mem _ m)⟩
theorem immL_map {α : Type} {f : α → D} {l : List α} (h : ∀ x ∈ l, imm (f x) = true) : immL (l.map f) = true := immL_iff.mpr fun d m => by
  obtain ⟨x, hx, rfl⟩ := List.mem_map.mp m
  exact h x hx
theorem shL_iff {k : Nat} {ds : List D} : shL k ds = true ↔ ∀ d ∈ ds, sh k d = true := by
  constructor
  · exact shL_mem
  · intro h
    induction ds with
    | nil => rfl
    | cons d ds ih =>
      unfold shL
      rw [Bool.and_eq_true]
      exact ⟨h d (List.mem_cons_self ..), ih fun e m => h e (List.mem_cons_of_mem _ m)⟩
/-- a comprehension over encoded items -/
theorem lcD_fm {α : Type} (enc : α → D) (keep : α → Bool) (f : α → D) {tg : DG} {tt : DTt} {te : DE} {δ : DEnv} {R : D → Prop} : ∀ (l : List α) (acc : List D),
    (∀ x ∈ l, ∀ Q : Option D → Prop, Q (if keep x = true then some (f x) else none) → tg (enc x) δ fun δ2 => tt δ2 fun b => if b = true then te δ2 (fun y => Q (some y)) else Q none) →
    R (.lst (acc ++ (l.filter keep).map f)) → lcD tg tt te δ (l.map enc) acc R
  | [], acc, _, h => by simpa [lcD] using h
  | x :: l, acc, hx, h => by
    rw [List.map_cons]
    unfold lcD
    refine hx x (List.mem_cons_self ..) (fun o => match o with
      | some y => lcD tg tt te δ (l.map enc) (acc ++ [y]) R
      | none => lcD tg tt te δ (l.map enc) acc R) ?_
    have ih := fun acc' h' => lcD_fm enc keep f (tg := tg) (tt := tt) (te := te) (δ := δ) (R := R) l acc' (fun y hy => hx y (List.mem_cons_of_mem _ hy)) h'
    cases k : keep x with
    | true =>
      rw [List.filter_cons_of_pos k, List.map_cons] at h
      exact ih (acc ++ [f x]) (by simpa using h)
    | false =>
      rw [List.filter_cons_of_neg (by rw [k]; decide)] at h
      exact ih acc h
theorem lcD_m {α : Type} (enc : α → D) (f : α → D) {tg : DG} {te : DE} {δ : DEnv} {R : D → Prop} (l : List α)
    (h : ∀ x ∈ l, ∀ Q : D → Prop, Q (f x) → tg (enc x) δ fun δ2 => te δ2 Q) (r : R (.lst (l.map f))) : lcD tg dYes te δ (l.map enc) [] R :=
  lcD_fm enc (fun _ => true) f l [] (fun x hx Q q => by simpa using h x hx (fun y => Q (some y)) (by simpa using q)) (by rw [List.filter_eq_self.mpr fun _ _ => rfl]; simpa using r)
/-- a loop over encoded items -/
theorem forL_inv {α : Type} (enc : α → D) {tg : DG} {tb : DS} {DD : DEnds} (P : List α → DEnv → Prop) : ∀ (l : List α) (δ : DEnv), P l δ →
    (∀ δ, P [] δ → DD.nx δ) → (∀ x xs δ, P (x :: xs) δ → ∀ K : DEnv → Prop, (∀ δ', P xs δ' → K δ') → tg (enc x) δ fun δ1 => tb { nx := K, ct := K, bk := DD.nx, rt := DD.rt } δ1) → dForL tg tb DD (l.map enc) δ
  | [], δ, h, h0, _ => h0 δ h
  | x :: l, δ, h, h0, hs => by
    rw [List.map_cons]
    unfold dForL
    exact hs x l δ h _ fun δ' h' => forL_inv enc P l δ' h' h0 hs
end
end PD
set_option Elab.async false
set_option linter.all false
set_option maxRecDepth 100000
set_option maxHeartbeats 2000000
namespace PD
open PySem PySem.Spec PyProof.Rows L2
/-! ### machines as data -/
abbrev Wd := List Nat
abbrev Stp := Nat × Wd × Wd × Nat
abbrev dI (n : Nat) : D := .int (n : Int)
abbrev dW (w : Wd) : D := .str w
def dS (s : Stp) : D := .tup [.int (s.1 : Int), .str s.2.1, .str s.2.2.1, .int (s.2.2.2 : Int)]
structure Mch where
  many : Nat
  st : List Nat
  sp : List Stp
  en : List Nat
def dM (m : Mch) : D := .tup [.int (m.many : Int), .tup (m.st.map dI), .tup (m.sp.map dS), .tup (m.en.map dI)]
theorem dI_inj {a b : Nat} (h : dI a = dI b) : a = b := by
  injection h with h
  exact Int.ofNat.inj h
theorem dS_inj {a b : Stp} (h : dS a = dS b) : a = b := by
  obtain ⟨a1, a2, a3, a4⟩ := a
  obtain ⟨b1, b2, b3, b4⟩ := b
  simp only [dS, D.tup.injEq, List.cons.injEq, D.int.injEq, D.str.injEq, and_true] at h
  obtain ⟨h1, h2, h3, h4⟩ := h
  simp [Int.ofNat.inj h1, h2, h3, Int.ofNat.inj h4]
theorem imm_dS (s : Stp) : imm (dS s) = true := by simp [dS, imm, immL]
theorem imm_dI (n : Nat) : imm (dI n) = true := rfl
theorem back_map {α : Type} {enc : α → D} (inj : ∀ a b, enc a = enc b → a = b) : ∀ {rs : List D} {xs : List α}, (∀ d ∈ rs, d ∈ xs.map enc) → ∃ ys : List α, rs = ys.map enc ∧ ∀ y ∈ ys, y ∈ xs
  | [], xs, _ => ⟨[], rfl, fun y m => nomatch m⟩
  | d :: rs, xs, h => by
    obtain ⟨ys, e, hy⟩ := back_map inj (rs := rs) fun d m => h d (List.mem_cons_of_mem _ m)
    obtain ⟨x, hx, rfl⟩ := List.mem_map.mp (h d (List.mem_cons_self ..))
    refine ⟨x :: ys, by rw [List.map_cons, e], fun y m => ?_⟩
    rcases List.mem_cons.mp m with rfl | m
    · exact hx
    · exact hy y m
theorem mem_enc {α : Type} {enc : α → D} (inj : ∀ a b, enc a = enc b → a = b) {x : α} {xs : List α} : enc x ∈ xs.map enc ↔ x ∈ xs := by
  constructor
  · intro h
    obtain ⟨y, hy, e⟩ := List.mem_map.mp h
    rwa [← inj _ _ e]
  · exact fun h => List.mem_map.mpr ⟨x, h, rfl⟩
theorem nodup_enc {α : Type} {enc : α → D} {xs : List α} (h : (xs.map enc).Nodup) : xs.Nodup := List.Pairwise.of_map enc (fun _ _ ne e => ne (congrArg enc e)) h
/-- what sorted(set(..)) gives, of encoded items -/
theorem srt_back {α : Type} {enc : α → D} (inj : ∀ a b, enc a = enc b → a = b) {rs : List D} {xs : List α} (nd : rs.Nodup) (mem : ∀ d, d ∈ rs ↔ d ∈ xs.map enc) : ∃ ys : List α, rs = ys.map enc ∧ ys.Nodup ∧ ∀ y, y ∈ ys ↔ y ∈ xs := by
  obtain ⟨ys, e, hy⟩ := back_map inj fun d m => (mem d).mp m
  subst e
  exact ⟨ys, rfl, nodup_enc nd, fun y => ⟨hy y, fun h => (mem_enc inj).mp ((mem (enc y)).mpr ((mem_enc inj).mpr h))⟩⟩
def Asc (l : List Nat) : Prop := l.Pairwise (· < ·)
theorem leD_int (a b : Int) : leD (.int a) (.int b) = decide (a ≤ b) := by
  have := congrFun (congrFun (PySem.W.dataLe_int (fun x : Int => x)) a) b
  rw [PySem.W.dataLe_eq] at this
  exact this
theorem asc_of {l : List Nat} (nd : l.Nodup) (pw : (l.map dI).Pairwise (fun a b => leD a b = true)) : Asc l := by
  have h1 := List.pairwise_map.mp pw
  unfold Asc
  refine (h1.and nd).imp fun {a b} h => ?_
  obtain ⟨h2, h3⟩ := h
  rw [leD_int, decide_eq_true_eq] at h2
  omega
theorem keysD_ints : ∀ l : List Nat, keysD (l.map dI) = some (l.map fun n : Nat => (Sum.inl (n : Int) : Key))
  | [] => rfl
  | x :: l => by
    rw [List.map_cons]
    unfold keysD
    rw [keysD_ints l]
    rfl
theorem keysD_words : ∀ l : List Wd, keysD (l.map dW) = some (l.map fun w => Sum.inr ⟨w.toArray⟩)
  | [] => rfl
  | x :: l => by
    rw [List.map_cons]
    unfold keysD
    rw [keysD_words l]
    rfl
def kS (s : Stp) : List Key := [.inl (s.1 : Int), .inr ⟨s.2.1.toArray⟩, .inr ⟨s.2.2.1.toArray⟩, .inl (s.2.2.2 : Int)]
theorem tkey_dS (s : Stp) : tkeyD (dS s) = some (kS s) := rfl
theorem tkeysD_steps : ∀ l : List Stp, tkeysD (l.map dS) = some (l.map kS)
  | [] => rfl
  | x :: l => by
    rw [List.map_cons]
    unfold tkeysD
    rw [tkeysD_steps l, tkey_dS]
    rfl
theorem hashD_ints {l : List Nat} (h : l.length < 4096) : hashD (l.map dI) = true := by
  unfold hashD
  rw [keysD_ints]
  simp [h]
theorem hashD_words {l : List Wd} (h : l.length < 4096) : hashD (l.map dW) = true := by
  unfold hashD
  rw [keysD_words]
  simp [h]
theorem hashD_steps {l : List Stp} (h : l.length < 64) : hashD (l.map dS) = true := by
  unfold hashD
  rw [tkeysD_steps]
  simp [h]
theorem alkD_map {α : Type} {enc : α → D} (h : ∀ a b, PySem.W.alike (toPy (enc a)) (toPy (enc b)) = true) (l : List α) : alkD (l.map enc) = true := by
  unfold alkD
  simp only [List.all_eq_true]
  intro d hd e he
  obtain ⟨a, _, rfl⟩ := List.mem_map.mp hd
  obtain ⟨b, _, rfl⟩ := List.mem_map.mp he
  exact h a b
theorem alk_I (a b : Nat) : PySem.W.alike (toPy (dI a)) (toPy (dI b)) = true := by simp [dI, toPy, PySem.W.alike]
theorem alk_W (a b : Wd) : PySem.W.alike (toPy (dW a)) (toPy (dW b)) = true := by simp [dW, toPy, PySem.W.alike]
theorem alk_S (a b : Stp) : PySem.W.alike (toPy (dS a)) (toPy (dS b)) = true := by simp [dS, toPy, toPyL, PySem.W.alike, PySem.W.alikeAll]
def Sq (a : D) (xs : List D) : Prop := a = .lst xs ∨ a = .tup xs
theorem sortSet_ints {a : D} {l : List Nat} {R : D → Prop} (h : Sq a (l.map dI)) (hl : l.length < 4096) (r : ∀ m : List Nat, Asc m → (∀ x, x ∈ m ↔ x ∈ l) → R (.lst (m.map dI))) : fSortSet a R := by
  have key : ∀ rs : List D, rs.Nodup → (∀ d, d ∈ rs ↔ d ∈ l.map dI) → rs.Pairwise (fun a b => leD a b = true) → R (.lst rs) := fun rs nd mem pw => by
    obtain ⟨ys, rfl, ny, my⟩ := srt_back (fun _ _ => dI_inj) nd mem
    exact r ys (asc_of ny pw) my
  rcases h with rfl | rfl <;> exact ⟨hashD_ints hl, alkD_map alk_I l, key⟩
theorem sortSet_steps {a : D} {l : List Stp} {R : D → Prop} (h : Sq a (l.map dS)) (hl : l.length < 64) (r : ∀ m : List Stp, m.Nodup → (∀ x, x ∈ m ↔ x ∈ l) → R (.lst (m.map dS))) : fSortSet a R := by
  have key : ∀ rs : List D, rs.Nodup → (∀ d, d ∈ rs ↔ d ∈ l.map dS) → rs.Pairwise (fun a b => leD a b = true) → R (.lst rs) := fun rs nd mem pw => by
    obtain ⟨ys, rfl, ny, my⟩ := srt_back (fun _ _ => dS_inj) nd mem
    exact r ys ny my
  rcases h with rfl | rfl <;> exact ⟨hashD_steps hl, alkD_map alk_S l, key⟩
theorem imm_ints (l : List Nat) : immL (l.map dI) = true := immL_map fun _ _ => rfl
theorem imm_steps (l : List Stp) : immL (l.map dS) = true := immL_map fun s _ => imm_dS s
/-! ### ordered -/
structure Ord (m : Mch) (many : Nat) (st : List Nat) (sp : List Stp) (en : List Nat) : Prop where
  many : m.many = many
  stA : Asc m.st
  st : ∀ x, x ∈ m.st ↔ x ∈ st
  spN : m.sp.Nodup
  sp : ∀ x, x ∈ m.sp ↔ x ∈ sp
  enA : Asc m.en
  en : ∀ x, x ∈ m.en ↔ x ∈ en
def F_ordered : DF := fun ds R => ∃ (many : Nat) (st : List Nat) (sp : List Stp) (en : List Nat) (a b c : D), ds = [.int (many : Int), a, b, c] ∧ Sq a (st.map dI) ∧ Sq b (sp.map dS) ∧ Sq c (en.map dI) ∧ st.length < 4096 ∧ sp.length < 64 ∧ en.length < 4096 ∧
  ∀ m, Ord m many st sp en → R (dM m)
theorem len_ordered : ∀ ds R, F_ordered ds R → ds.length = 4 := by
  rintro ds R ⟨_, _, _, _, _, _, _, rfl, _⟩
  rfl
def M_ordered : Nat → Bool := fun i => ([] : List Nat).contains i
def sem_ordered : DS := (dRet (dTup (dCons (dImm (dVar 0)) (dCons (dCB fTuple (dCons (dSortSet (dVar 1)) dNil)) (dCons (dCB fTuple (dCons (dSortSet (dVar 2)) dNil)) (dCons (dCB fTuple (dCons (dSortSet (dVar 3)) dNil)) dNil))))))
theorem own_ordered : ∀ ds R, F_ordered ds R → ∀ i, i < ds.length → M_ordered i = false := fun _ _ _ _ _ => rfl
theorem pure_ordered : ∀ ds R, F_ordered ds R → sem_ordered { nx := fun _ => R .non, rt := R } (startD 4 ds) := by
  rintro ds R ⟨many, st, sp, en, a, b, c, rfl, ha, hb, hc, l1, l2, l3, r⟩
  show sem_ordered _ [some _, some _, some _, some _]
  simp only [sem_ordered, x_ret, x_tup, x_cons, x_imm, x_var, x_cb, x_sortSet, x_nil, List.getElem?_cons_zero, List.getElem?_cons_succ, Option.some.injEq, exists_eq_left', imm, true_and]
  refine sortSet_ints ha l1 fun st' h1 h2 => ?_
  refine ⟨imm_ints _, ?_⟩
  refine sortSet_steps hb l2 fun sp' h3 h4 => ?_
  refine ⟨imm_steps _, ?_⟩
  refine sortSet_ints hc l3 fun en' h5 h6 => ?_
  refine ⟨imm_ints _, by simp [sizeLine_eq], r ⟨many, st', sp', en'⟩ ⟨rfl, h1, h2, h3, h4, h5, h6⟩⟩
/-! ### exchanged, coder -/
def swapS (s : Stp) : Stp := (s.1, s.2.2.1, s.2.1, s.2.2.2)
def F_exchanged : DF := fun ds R => ∃ m : Mch, ds = [dM m] ∧ m.st.length < 4096 ∧ m.sp.length < 64 ∧ m.en.length < 4096 ∧ ∀ m', Ord m' m.many m.st (m.sp.map swapS) m.en → R (dM m')
def M_exchanged : Nat → Bool := fun i => ([] : List Nat).contains i
def sem_exchanged : DS := (dRet (dCall F_ordered (dCons (dOp fSub (dVar 0) (dC (.int 0))) (dCons (dOp fSub (dVar 0) (dC (.int 1))) (dCons (dLc (dIt (dOp fSub (dVar 0) (dC (.int 2)))) (dgTup 4 (dgCons (dgName 1) (dgCons (dgName 2) (dgCons (dgName 3) (dgCons (dgName 4) dgNil))))) dYes (dTup (dCons (dImm (dVar 1)) (dCons (dImm (dVar 3)) (dCons (dImm (dVar 2)) (dCons (dImm (dVar 4)) dNil))))) [1, 2, 3, 4]) (dCons (dOp fSub (dVar 0) (dC (.int 3))) dNil))))))
theorem len_exchanged : ∀ ds R, F_exchanged ds R → ds.length = 1 := by
  rintro ds R ⟨_, rfl, _⟩
  rfl
theorem own_exchanged : ∀ ds R, F_exchanged ds R → ∀ i, i < ds.length → M_exchanged i = false := fun _ _ _ _ _ => rfl
theorem pure_exchanged : ∀ ds R, F_exchanged ds R → sem_exchanged { nx := fun _ => R .non, rt := R } (startD 5 ds) := by
  rintro ds R ⟨m, rfl, l1, l2, l3, r⟩
  show sem_exchanged _ [some _, none, none, none, none]
  simp [sem_exchanged, dM, fSub, fItems, dLcZ, wipeD]
  refine ⟨by have := l2; rw [sizeLine_eq]; omega, ?_⟩
  refine lcD_m dS (fun s => dS (swapS s)) m.sp (fun s hs Q q => ?_) ?_
  · simpa [dS, dgTup, dgCons, dgNil, swapS, imm, sizeLine_eq] using q
  · refine ⟨m.many, m.st, m.sp.map swapS, m.en, _, _, _, rfl, .inr rfl, .inl (by rw [List.map_map]; rfl), .inr rfl, l1, by simpa using l2, l3, r⟩
theorem len_steps {m : Mch} (h : m.sp.length < 64) : m.sp.length ≤ sizeLine := by rw [sizeLine_eq]; omega
def F_coder : DF := fun ds R => ∃ ws : List Wd, ds = [.tup (ws.map dW)] ∧ (∀ w ∈ ws, w.length ≤ 100) ∧
  ∀ m', Ord m' 1 [0] ((List.range (min 3 ws.length)).map fun k => (0, [97 + k], ws.getD k [], 0)) [0] → R (dM m')
def M_coder : Nat → Bool := fun i => ([] : List Nat).contains i
/- 0 words, 1 k -/
def sem_coder : DS := (dRet (dCall F_ordered (dCons (dC (.int 1)) (dCons (dLst (dCons (dC (.int 0)) dNil)) (dCons (dLc (dRng1 (dCons (dCB fMin2 (dCons (dC (.int 3)) (dCons (dCB fLen (dCons (dVar 0) dNil)) dNil))) dNil)) (dgName 1) dYes (dTup (dCons (dC (.int 0)) (dCons (dOp fSub (dC (.str [97, 98, 99])) (dVar 1)) (dCons (dImm (dOp fSub (dVar 0) (dVar 1))) (dCons (dC (.int 0)) dNil))))) [1]) (dCons (dLst (dCons (dC (.int 0)) dNil)) dNil))))))
theorem len_coder : ∀ ds R, F_coder ds R → ds.length = 1 := by
  rintro ds R ⟨_, rfl, _⟩
  rfl
theorem own_coder : ∀ ds R, F_coder ds R → ∀ i, i < ds.length → M_coder i = false := fun _ _ _ _ _ => rfl
theorem pure_coder : ∀ ds R, F_coder ds R → sem_coder { nx := fun _ => R .non, rt := R } (startD 2 ds) := by
  rintro ds R ⟨ws, rfl, hw, r⟩
  show sem_coder _ [some _, none]
  have e1 : (if (ws.length : Int) < 3 then (ws.length : Int) else 3) = ((min 3 ws.length : Nat) : Int) := by
    split <;> omega
  simp [sem_coder, fSub, fItems, dLcZ, wipeD, fMin2, fLen, dRng1, e1, rngD_nat, imm, sizeLine_eq]
  refine ⟨by omega, by omega, ?_⟩
  refine lcD_m dI (fun k => dS (0, [97 + k], ws.getD k [], 0)) (List.range (min 3 ws.length)) (fun k hk Q q => ?_) ?_
  · have hk := List.mem_range.mp hk
    have hl : k < ws.length := by omega
    have e2 : atI ([97, 98, 99] : List Nat) (k : Int) = some (97 + k) := by
      rw [atI_nat]
      match k, hk with
      | 0, _ => rfl
      | 1, _ => rfl
      | 2, _ => rfl
      | k + 3, hk => omega
    have e3 : atI (ws.map dW) (k : Int) = some (dW (ws.getD k [])) := by
      rw [atI_nat, List.getElem?_map, List.getElem?_eq_getElem hl, List.getD_eq_getElem?_getD, List.getElem?_eq_getElem hl]
      rfl
    simpa [dS, dI, fSub, e2, e3, imm, sizeLine_eq] using q
  · exact ⟨1, [0], _, [0], _, _, _, rfl, .inl rfl, .inl (by rw [List.map_map]; rfl), .inl rfl, by simp, by simp; omega, by simp, r⟩
/-! ### steps_from -/
def F_steps_from : DF := fun ds R => ∃ (m : Mch) (p : Nat), ds = [dM m, .int (p : Int)] ∧ m.sp.length < 64 ∧ R (.lst ((m.sp.filter fun s => s.1 == p).map dS))
def M_steps_from : Nat → Bool := fun i => ([] : List Nat).contains i
/- 0 machine, 1 state, 2 step -/
def sem_steps_from : DS := (dRet (dLc (dIt (dOp fSub (dVar 0) (dC (.int 2)))) (dgName 2) (dTest (dOp fEq (dOp fSub (dVar 2) (dC (.int 0))) (dVar 1))) (dImm (dVar 2)) [2]))
theorem len_steps_from : ∀ ds R, F_steps_from ds R → ds.length = 2 := by
  rintro ds R ⟨_, _, rfl, _⟩
  rfl
theorem own_steps_from : ∀ ds R, F_steps_from ds R → ∀ i, i < ds.length → M_steps_from i = false := fun _ _ _ _ _ => rfl
theorem eqb_int (a b : Int) : eqb (.int a) (.int b) = decide (a = b) := by
  simp only [eqb, toPy, PyData.eqv]
  rw [Bool.eq_iff_iff]
  simp
theorem pure_steps_from : ∀ ds R, F_steps_from ds R → sem_steps_from { nx := fun _ => R .non, rt := R } (startD 3 ds) := by
  rintro ds R ⟨m, p, rfl, l2, r⟩
  show sem_steps_from _ [some _, some _, none]
  simp [sem_steps_from, dM, fSub, fItems, dLcZ, wipeD]
  refine ⟨len_steps l2, ?_⟩
  refine lcD_fm dS (fun s => s.1 == p) dS m.sp [] (fun s hs Q q => ?_) (by simpa using r)
  have e : (decide ((s.1 : Int) = (p : Int))) = (s.1 == p) := by
    rw [Bool.eq_iff_iff, decide_eq_true_eq, beq_iff_eq]
    omega
  simp only [x_gname, x_test, x_op, x_var, x_c]
  simp [dS, fSub, fEq, sc, eqb_int, imm, immL] at q ⊢
  by_cases h : s.1 = p
  · simpa [h] using q
  · have h2 : ¬ (s.1 : Int) = (p : Int) := by omega
    simpa [h, h2] using q
end PD
set_option Elab.async false
set_option linter.all false
set_option maxRecDepth 100000
set_option maxHeartbeats 2000000
namespace PD
open PySem PySem.Spec PyProof.Rows L2
/-! ### fine -/
/-- the steps of a long step's tail, from a new state on -/
def tailC (q : Nat) : Nat → Wd → List Stp
  | _, [] => []
  | n, [b] => [(n, [b], [], q)]
  | n, b :: c :: r => (n, [b], [], n + 1) :: tailC q (n + 1) (c :: r)
def cutS (n : Nat) (s : Stp) : List Stp := match s.2.1 with
  | a :: b :: r => (s.1, [a], s.2.2.1, n) :: tailC s.2.2.2 n (b :: r)
  | _ => [s]
def moreS (s : Stp) : Nat := s.2.1.length - 1
def fineL : Nat → List Stp → List Stp
  | _, [] => []
  | n, s :: r => cutS n s ++ fineL (n + moreS s) r
def sumM (l : List Stp) : Nat := (l.map moreS).sum
theorem tailC_len (q : Nat) : ∀ (n : Nat) (w : Wd), (tailC q n w).length = w.length
  | _, [] => rfl
  | _, [b] => rfl
  | n, b :: c :: r => by simp only [tailC, List.length_cons, tailC_len q (n + 1) (c :: r)]
theorem cutS_len (n : Nat) (s : Stp) : (cutS n s).length = moreS s + 1 := by
  unfold cutS moreS
  split
  · next a b r e => rw [e]; simp only [List.length_cons, tailC_len]; omega
  · next h =>
    have : s.2.1.length ≤ 1 := by
      match hs : s.2.1 with
      | [] => simp
      | [a] => simp
      | a :: b :: r => exact absurd hs (h a b r)
    simp only [List.length_cons, List.length_nil]
    omega
theorem fineL_len : ∀ (n : Nat) (l : List Stp), (fineL n l).length = l.length + sumM l
  | _, [] => rfl
  | n, s :: r => by
    unfold fineL
    rw [List.length_append, cutS_len, fineL_len]
    simp only [sumM, List.map_cons, List.sum_cons, List.length_cons]
    omega
def F_fine : DF := fun ds R => ∃ m : Mch, ds = [dM m] ∧ m.st.length < 4096 ∧ m.en.length < 4096 ∧ m.sp.length + sumM m.sp < 64 ∧ (∀ s ∈ m.sp, s.2.1.length ≤ 1000) ∧ ∀ m', Ord m' (m.many + sumM m.sp) m.st (fineL m.many m.sp) m.en → R (dM m')
def M_fine : Nat → Bool := fun i => ([2] : List Nat).contains i
/- 0 machine, 1 many, 2 steps, 3 p, 4 one, 5 two, 6 q, 7 k -/
def sem_fine : DS := (dSeq (dSet 1 (dOp fSub (dVar 0) (dC (.int 0))))
  (dSeq (dSetO 2 (dLst dNil))
  (dSeq (dFor (dIt (dOp fSub (dVar 0) (dC (.int 2)))) (dgTup 4 (dgCons (dgName 3) (dgCons (dgName 4) (dgCons (dgName 5) (dgCons (dgName 6) dgNil))))) (dSeq (dIfS (dTest (dOp (fB0 fun i j => decide (i < j)) (dCB fLen (dCons (dVar 4) dNil)) (dC (.int 2)))) (dSeq (dAppend 2 (dTup (dCons (dImm (dVar 3)) (dCons (dImm (dVar 4)) (dCons (dImm (dVar 5)) (dCons (dImm (dVar 6)) dNil))))))
  dCont) dSkip)
  (dSeq (dAppend 2 (dTup (dCons (dImm (dVar 3)) (dCons (dImm (dOp fSub (dVar 4) (dC (.int 0)))) (dCons (dImm (dVar 5)) (dCons (dImm (dVar 1)) dNil))))))
  (dSeq (dFor (dRng2 (dCons (dC (.int 1)) (dCons (dOp (fI0 fun i j => i - j) (dCB fLen (dCons (dVar 4) dNil)) (dC (.int 1))) dNil))) (dgName 7) (dSeq (dAppend 2 (dTup (dCons (dImm (dVar 1)) (dCons (dImm (dOp fSub (dVar 4) (dVar 7))) (dCons (dC (.str [])) (dCons (dOp fAdd (dVar 1) (dC (.int 1))) dNil))))))
  (dAug (fun i j => i + j) 1 (dC (.int 1)))))
  (dSeq (dAppend 2 (dTup (dCons (dImm (dVar 1)) (dCons (dImm (dOp fSub (dVar 4) (dUn fNeg (dC (.int 1))))) (dCons (dC (.str [])) (dCons (dImm (dVar 6)) dNil))))))
  (dAug (fun i j => i + j) 1 (dC (.int 1))))))))
  (dRet (dCall F_ordered (dCons (dVar 1) (dCons (dOp fSub (dVar 0) (dC (.int 1))) (dCons (dVar 2) (dCons (dOp fSub (dVar 0) (dC (.int 3))) dNil)))))))))
theorem len_fine : ∀ ds R, F_fine ds R → ds.length = 1 := by
  rintro ds R ⟨_, rfl, _⟩
  rfl
theorem own_fine : ∀ ds R, F_fine ds R → ∀ i, i < ds.length → M_fine i = false := by
  rintro ds R ⟨_, rfl, _⟩ i hi
  have : i = 0 := by simpa using hi
  subst this
  rfl
theorem getD_cast {w : Wd} {k : Nat} (h : k < w.length) : atI w (k : Int) = some (w.getD k 0) := by
  rw [atI_nat, List.getElem?_eq_getElem h, List.getD_eq_getElem?_getD, List.getElem?_eq_getElem h]
  rfl
theorem tailC_snoc (q : Nat) : ∀ (n : Nat) (w : Wd) (h : w ≠ []), tailC q n w = ((List.range (w.length - 1)).map fun k => (n + k, [w.getD k 0], ([] : Wd), n + k + 1)) ++ [(n + (w.length - 1), [w.getLast h], [], q)]
  | n, [b], _ => by simp [tailC]
  | n, b :: c :: r, _ => by
    unfold tailC
    rw [tailC_snoc q (n + 1) (c :: r) (by simp)]
    simp only [List.length_cons, Nat.add_sub_cancel, List.range_succ_eq_map (n := r.length), List.map_cons, List.map_map, List.cons_append]
    have e1 : (List.map (fun k => (n + 1 + k, [(c :: r).getD k 0], ([] : Wd), n + 1 + k + 1)) (List.range r.length)) = (List.map ((fun k => (n + k, [(b :: c :: r).getD k 0], ([] : Wd), n + k + 1)) ∘ Nat.succ) (List.range r.length)) := by
      apply List.map_congr_left
      intro k _
      simp only [Function.comp, Nat.succ_eq_add_one, List.getD_cons_succ]
      have e : n + 1 + k = n + (k + 1) := by omega
      rw [e]
    have e2 : n + 1 + r.length = n + (r.length + 1) := by omega
    rw [e1, e2]
    simp
theorem pure_fine : ∀ ds R, F_fine ds R → sem_fine { nx := fun _ => R .non, rt := R } (startD 8 ds) := by
  rintro ds R ⟨m, rfl, l1, l3, l2, lw, r⟩
  show sem_fine _ [some _, none, none, none, none, none, none, none]
  simp [sem_fine, dM, fSub, fItems, flatD, immL, sizeLine_eq]
  rw [← dM]
  refine forL_inv dS (fun rest δ => ∃ (n : Nat) (acc : List Stp) (a b c d e : Option D), δ = [some (dM m), some (.int (n : Int)), some (.lst (acc.map dS)), a, b, c, d, e] ∧ acc ++ fineL n rest = fineL m.many m.sp ∧ n + sumM rest = m.many + sumM m.sp ∧ (∀ s ∈ rest, s.2.1.length ≤ 1000)) m.sp _ ⟨m.many, [], none, none, none, none, none, rfl, rfl, rfl, lw⟩ ?_ ?_
  · rintro δ ⟨n, acc, a, b, c, d, e, rfl, h1, h2, _⟩
    have h1 : acc = fineL m.many m.sp := by simpa [fineL] using h1
    have h2 : n = m.many + sumM m.sp := by simpa [sumM] using h2
    simp [dM, fSub]
    refine ⟨n, m.st, acc, m.en, _, _, _, rfl, .inr rfl, .inl rfl, .inr rfl, l1, by rw [h1, fineL_len]; exact l2, l3, fun m' o => r m' (by rw [← h1, ← h2]; exact o)⟩
  · rintro s rest δ ⟨n, acc, a, b, c, d, e, rfl, h1, h2, hl⟩ KK hK
    have hs := hl s (List.mem_cons_self ..)
    have hrest := fun t ht => hl t (List.mem_cons_of_mem _ ht)
    have hacc : acc.length + (cutS n s).length < 64 := by
      have e1 := congrArg List.length h1
      have e2 : (fineL n (s :: rest)).length = (cutS n s).length + (fineL (n + moreS s) rest).length := by simp only [fineL, List.length_append]
      rw [List.length_append, e2, fineL_len m.many] at e1
      omega
    rw [cutS_len] at hacc
    obtain ⟨p, u, v, q⟩ := s
    have hlen : (u.length : Int) < 2 ↔ u.length < 2 := by omega
    simp only at hs
    by_cases hu : u.length < 2
    · have hu' : (u.length : Int) < 2 := by omega
      simp [dS, dgTup, dgCons, dgNil, fLen, fB0, imm, sizeLine_eq, fSub, hu', dAppend, immL]
      refine ⟨by omega, by omega, ?_⟩
      refine hK _ ⟨n, acc ++ [(p, u, v, q)], some (.int (p : Int)), some (.str u), some (.str v), some (.int (q : Int)), e, ?_, ?_, ?_, hrest⟩
      · simp [dS]
      · rw [← h1]
        have e0 : cutS n (p, u, v, q) = [(p, u, v, q)] := by
          unfold cutS
          match u, hu with
          | [], _ => rfl
          | [x], _ => rfl
        have e1 : moreS (p, u, v, q) = 0 := by unfold moreS; simp only; omega
        simp only [fineL, e0, e1, Nat.add_zero, List.append_assoc, List.singleton_append, List.cons_append, List.nil_append]
      · rw [← h2]
        have e1 : moreS (p, u, v, q) = 0 := by unfold moreS; simp only; omega
        simp [sumM, e1]
    · have hu' : ¬ (u.length : Int) < 2 := by omega
      have e0 : atI u 0 = some (u.getD 0 0) := getD_cast (k := 0) (by omega)
      have e9 : atI u (-1) = some (u.getD (u.length - 1) 0) := by
        rw [atI_m1, List.getElem?_eq_getElem (by omega), List.getD_eq_getElem?_getD, List.getElem?_eq_getElem (by omega)]
        rfl
      have el : ((u.length : Int) - 1) = ((u.length - 1 : Nat) : Int) := by omega
      simp [dS, dgTup, dgCons, dgNil, fLen, fB0, imm, immL, sizeLine_eq, fSub, hu', dAppend, -atI_0, -atI_m1, e0, dRng2, fI0, el]
      refine ⟨by omega, by omega, by omega, by omega, ?_⟩
      have er : rngD 1 ((u.length - 1 : Nat) : Int) = (List.range' 1 (u.length - 1 - 1)).map dI := rngD_two 1 (u.length - 1)
      rw [er]
      have hm : moreS (p, u, v, q) = u.length - 1 := rfl
      rw [hm] at hacc
      have hcut : cutS n (p, u, v, q) = (p, [u.getD 0 0], v, n) :: (((List.range (u.length - 2)).map fun k => (n + k, [u.getD (k + 1) 0], ([] : Wd), n + k + 1)) ++ [(n + (u.length - 2), [u.getD (u.length - 1) 0], [], q)]) := by
        match u, hu with
        | [], hu => exact absurd (by simp) hu
        | [x], hu => exact absurd (by simp) hu
        | x :: y :: w, _ =>
          have ec : cutS n (p, x :: y :: w, v, q) = (p, [x], v, n) :: tailC q n (y :: w) := rfl
          rw [ec, tailC_snoc q n (y :: w) (by simp)]
          simp [List.getLast_eq_getElem]
      refine forL_inv dI (fun rest δ => ∃ (j : Nat) (x7 : Option D), rest = List.range' j (u.length - 1 - j) ∧ 1 ≤ j ∧ j ≤ u.length - 1 ∧ δ = [some (dM m), some (.int ((n + (j - 1) : Nat) : Int)), some (.lst ((acc ++ (p, [u.getD 0 0], v, n) :: (List.range (j - 1)).map fun k => (n + k, [u.getD (k + 1) 0], ([] : Wd), n + k + 1)).map dS)), some (.int (p : Int)), some (.str u), some (.str v), some (.int (q : Int)), x7]) _ _ ⟨1, e, by simp, Nat.le_refl _, by omega, by simp [dS]⟩ ?_ ?_
      · rintro δ ⟨j, x7, h3, h4, h5, rfl⟩
        have hj : j = u.length - 1 := by
          have := congrArg List.length h3
          simp at this
          omega
        subst hj
        have ej : u.length - 1 - 1 = u.length - 2 := by omega
        simp [fSub, fNeg, -atI_0, -atI_m1, e9, imm, immL, sizeLine_eq, dAppend, dAug]
        refine ⟨by omega, by omega, ?_⟩
        refine hK _ ⟨n + (u.length - 1), acc ++ cutS n (p, u, v, q), some (.int (p : Int)), some (.str u), some (.str v), some (.int (q : Int)), x7, ?_, ?_, ?_, hrest⟩
        · rw [hcut, ej]
          have e5 : ((n : Int) + ((u.length - 2 : Nat) : Int) + 1) = (n : Int) + ((u.length - 1 : Nat) : Int) := by omega
          simp [dS, e5]
        · rw [← h1]
          simp only [fineL, hm, List.append_assoc]
        · rw [← h2]
          simp [sumM, hm]
          omega
      · rintro k xs δ ⟨j, x7, h3, h4, h5, rfl⟩ K2 hK2
        have hpos : u.length - 1 - j ≠ 0 := by
          intro z
          rw [z] at h3
          cases h3
        obtain ⟨z, hz⟩ := Nat.exists_eq_succ_of_ne_zero hpos
        rw [hz, Nat.succ_eq_add_one, List.range'_succ] at h3
        simp only [List.cons.injEq] at h3
        obtain ⟨rfl, rfl⟩ := h3
        have e4 : atI u (k : Int) = some (u.getD k 0) := getD_cast (by omega)
        simp [fSub, e4, imm, immL, sizeLine_eq, dAppend, dAug, fAdd, dI]
        refine ⟨by omega, by omega, ?_⟩
        refine hK2 _ ⟨k + 1, some (.int (k : Int)), by rw [show u.length - 1 - (k + 1) = z by omega], by omega, by omega, ?_⟩
        have e6 : k + 1 - 1 = (k - 1) + 1 := by omega
        rw [e6, List.range_succ]
        have e7 : ((n : Int) + ((k - 1 : Nat) : Int) + 1) = (n : Int) + ((k - 1 + 1 : Nat) : Int) := by omega
        have e8 : k - 1 + 1 = k := by omega
        simp [dS, e8]
        omega
end PD
set_option Elab.async false
set_option linter.all false
set_option maxRecDepth 100000
set_option maxHeartbeats 2000000
namespace PD
open PySem PySem.Spec PyProof.Rows L2
/-! ### small facts on encoded lists -/
theorem eqb_nat (a b : Nat) : eqb (dI a) (dI b) = decide (a = b) := by
  rw [eqb_int]
  rw [Bool.eq_iff_iff, decide_eq_true_eq, decide_eq_true_eq]
  omega
theorem mem_ints (q : Nat) (l : List Nat) : mem (dI q) (l.map dI) = decide (q ∈ l) := by
  unfold mem
  rw [List.any_map, Bool.eq_iff_iff, List.any_eq_true, decide_eq_true_eq]
  constructor
  · rintro ⟨x, hx, e⟩
    have e : eqb (dI x) (dI q) = true := e
    rw [eqb_nat, decide_eq_true_eq] at e
    rwa [← e]
  · intro h
    exact ⟨q, h, by show eqb (dI q) (dI q) = true; rw [eqb_nat]; simp⟩
theorem sh_int (k : Nat) (i : Int) : sh k (.int i) = true := by cases k <;> simp [sh]
theorem shL_ints (k : Nat) (l : List Nat) : shL k (l.map dI) = true := shL_iff.mpr fun d m => by
  obtain ⟨x, _, rfl⟩ := List.mem_map.mp m
  exact sh_int k _
theorem fl_ints (l : List Nat) : (l.map dI).all fl = true := by
  rw [List.all_map, List.all_eq_true]
  intro x _
  rfl
theorem leD_sorted (ds : List D) : (ds.mergeSort leD).Pairwise (fun a b => leD a b = true) := by
  have := PySem.W.sort_pairwise (PySem.W.sortLe_total (PyProof.Rows.listOrd PyProof.Rows.itemOrd) false fun b : D => PySem.W.keyToks (toPy b)) ds
  exact this
theorem sorted_ints {l : List Nat} (nd : l.Nodup) : ∃ m : List Nat, (l.map dI).mergeSort leD = m.map dI ∧ Asc m ∧ ∀ x, x ∈ m ↔ x ∈ l := by
  have pm := List.mergeSort_perm (l.map dI) leD
  have nd2 : ((l.map dI).mergeSort leD).Nodup := pm.nodup_iff.mpr (List.pairwise_map.mpr (nd.imp fun ne e => ne (dI_inj e)))
  obtain ⟨m, e, hm⟩ := back_map (fun _ _ => dI_inj) (rs := (l.map dI).mergeSort leD) (xs := l) fun d h => pm.mem_iff.mp h
  rw [e] at nd2
  have pw := leD_sorted (l.map dI)
  rw [e] at pw
  refine ⟨m, e, asc_of (nodup_enc nd2) pw, fun x => ⟨hm x, fun h => ?_⟩⟩
  have : dI x ∈ (l.map dI).mergeSort leD := pm.mem_iff.mpr (List.mem_map.mpr ⟨x, h, rfl⟩)
  rw [e] at this
  exact (mem_enc (fun _ _ => dI_inj)).mp this
theorem alk_ints (l : List Nat) : alkD (l.map dI) = true := alkD_map alk_I l
theorem sortable_ints (l : List Nat) : sortableD (l.map dI) = true := by
  unfold sortableD
  rw [Bool.or_eq_true]
  right
  rw [List.all_map, List.all_eq_true]
  intro x _
  rfl
theorem fSorted_ints {l : List Nat} {R : D → Prop} (nd : l.Nodup) (r : ∀ m : List Nat, Asc m → (∀ x, x ∈ m ↔ x ∈ l) → R (.lst (m.map dI))) : fSorted [.lst (l.map dI)] R := by
  obtain ⟨m, e, h1, h2⟩ := sorted_ints nd
  refine ⟨⟨imm_ints l, shL_ints 32 l, alk_ints l, sortable_ints l⟩, ?_⟩
  rw [e]
  exact r m h1 h2
theorem asc_nodup {l : List Nat} (h : Asc l) : l.Nodup := h.imp fun h => Nat.ne_of_lt h
theorem asc_eq : ∀ {l m : List Nat}, Asc l → Asc m → (∀ x, x ∈ l ↔ x ∈ m) → l = m
  | [], [], _, _, _ => rfl
  | [], y :: m, _, _, h => by have := (h y).mpr (List.mem_cons_self ..); cases this
  | x :: l, [], _, _, h => by have := (h x).mp (List.mem_cons_self ..); cases this
  | x :: l, y :: m, hl, hm, h => by
    obtain ⟨h1, h2⟩ := List.pairwise_cons.mp hl
    obtain ⟨h3, h4⟩ := List.pairwise_cons.mp hm
    have e : x = y := by
      rcases List.mem_cons.mp ((h x).mp (List.mem_cons_self ..)) with e | a
      · exact e
      · rcases List.mem_cons.mp ((h y).mpr (List.mem_cons_self ..)) with e | b
        · exact e.symm
        · have := h3 x a
          have := h1 y b
          omega
    subst e
    rw [asc_eq h2 h4 fun z => ?_]
    constructor
    · intro hz
      rcases List.mem_cons.mp ((h z).mp (List.mem_cons_of_mem _ hz)) with e | a
      · have := h1 z hz
        omega
      · exact a
    · intro hz
      rcases List.mem_cons.mp ((h z).mpr (List.mem_cons_of_mem _ hz)) with e | a
      · have := h3 z hz
        omega
      · exact a
theorem len_le_of {l : List Nat} {N : Nat} (nd : l.Nodup) (h : ∀ x ∈ l, x < N) : l.length ≤ N := by
  have := L2.nat_nodup_len l (List.range N) nd fun x hx => List.mem_range.mpr (h x hx)
  rwa [List.length_range] at this
/-! ### spread -/
inductive Eps (sp : List Stp) : Nat → Nat → Prop
  | refl (p : Nat) : Eps sp p p
  | step {p q r : Nat} {v : Wd} : Eps sp p q → (q, [], v, r) ∈ sp → Eps sp p r
def EC (sp : List Stp) (S : List Nat) (q : Nat) : Prop := ∃ p ∈ S, Eps sp p q
def F_spread : DF := fun ds R => ∃ (m : Mch) (a : D) (S : List Nat) (N : Nat), ds = [dM m, a] ∧ Sq a (S.map dI) ∧ m.sp.length < 64 ∧ S.length < 4096 ∧ N < 4096 ∧ (∀ p ∈ S, p < N) ∧ (∀ s ∈ m.sp, s.2.2.2 < N) ∧
  ∀ T, Asc T → (∀ q, q ∈ T ↔ EC m.sp S q) → R (.tup (T.map dI))
def M_spread : Nat → Bool := fun i => ([2] : List Nat).contains i
/- 0 machine, 1 states, 2 found, 3 at, 4 p, 5 one, 6 _, 7 q -/
def sem_spread : DS := (dSeq (dSetO 2 (dSortSet (dVar 1)))
  (dSeq (dSet 3 (dC (.int 0)))
  (dSeq (dWhile (dTest (dOp (fB0 fun i j => decide (i < j)) (dVar 3) (dCB fLen (dCons (dVar 2) dNil)))) (dSeq (dFor (dIt (dOp fSub (dVar 0) (dC (.int 2)))) (dgTup 4 (dgCons (dgName 4) (dgCons (dgName 5) (dgCons (dgName 6) (dgCons (dgName 7) dgNil))))) (dIfS (dAnd (dTest (dOp fEq (dVar 4) (dOp fSub (dVar 2) (dVar 3)))) (dAnd (dTest (dOp fEq (dVar 5) (dC (.str [])))) (dTest (dOp fNotIn (dVar 7) (dVar 2))))) (dAppend 2 (dVar 7)) dSkip))
  (dAug (fun i j => i + j) 3 (dC (.int 1)))))
  (dRet (dCB fTuple (dCons (dCB fSorted (dCons (dVar 2) dNil)) dNil))))))
theorem len_spread : ∀ ds R, F_spread ds R → ds.length = 2 := by
  rintro ds R ⟨_, _, _, _, rfl, _⟩
  rfl
theorem own_spread : ∀ ds R, F_spread ds R → ∀ i, i < ds.length → M_spread i = false := by
  rintro ds R ⟨_, _, _, _, rfl, _⟩ i hi
  have : i < 2 := hi
  match i, this with
  | 0, _ => rfl
  | 1, _ => rfl
theorem eqb_str (a b : Wd) : eqb (.str a) (.str b) = decide (a = b) := by
  simp only [eqb, toPy, PyData.eqv]
  rw [Bool.eq_iff_iff, decide_eq_true_eq, beq_iff_eq]
  constructor
  · intro h
    have := congrArg (fun x : Str => x.cps.toList) h
    simpa using this
  · rintro rfl
    rfl
theorem pure_spread : ∀ ds R, F_spread ds R → sem_spread { nx := fun _ => R .non, rt := R } (startD 8 ds) := by
  rintro ds R ⟨m, a, S, N, rfl, ha, l1, l2, hN, hS, hq, r⟩
  show sem_spread _ [some _, some _, none, none, none, none, none, none]
  simp only [sem_spread, x_var, x_c, x_imm, x_op, x_un, x_cb, x_call, x_nil, x_cons, x_tup, x_lst, x_noPart, x_part, x_sl, x_test, x_and, x_or, x_not, x_yes, x_andV, x_orV, x_notV, x_if, x_it, x_gname, x_seq, x_skip, x_brk, x_cont, x_ret, x_retN, x_drop, x_ifS, x_set, x_setO, x_asg, x_sortSet, x_for, x_get, x_din, x_dnotin, List.set_cons_zero, List.set_cons_succ, List.getElem?_cons_zero, List.getElem?_cons_succ, List.length_cons, List.length_nil, Option.some.injEq, exists_eq_left', D.bl.injEq, D.int.injEq]
  refine sortSet_ints ha l2 fun S' asc memS => ⟨imm_ints S', by decide, ?_⟩
  let I : Nat → List Nat → Prop := fun at_ f => f.Nodup ∧ (∀ x ∈ S, x ∈ f) ∧ (∀ x ∈ f, EC m.sp S x) ∧ (∀ x ∈ f, x < N) ∧ ∀ (i : Nat) (x : Nat) (v : Wd) (y : Nat), i < at_ → f[i]? = some x → (x, [], v, y) ∈ m.sp → y ∈ f
  refine ⟨fun k δ => ∃ (at_ : Nat) (f : List Nat) (b c d e : Option D), k = N - at_ ∧ at_ ≤ f.length ∧ δ = [some (dM m), some a, some (.lst (f.map dI)), some (.int (at_ : Int)), b, c, d, e] ∧ I at_ f, ⟨_, 0, S', none, none, none, none, rfl, Nat.zero_le _, rfl, asc_nodup asc, fun x hx => (memS x).mpr hx, fun x hx => ⟨x, (memS x).mp hx, .refl x⟩, fun x hx => hS x ((memS x).mp hx), fun i x v y hi => absurd hi (Nat.not_lt_zero _)⟩, ?_⟩
  rintro k δ ⟨at_, f, b, c, d, e, rfl, hle, rfl, nd, hsub, hcl, hlt, hdone⟩
  have hfl : f.length ≤ N := len_le_of nd hlt
  simp only [x_var, x_c, x_imm, x_op, x_un, x_cb, x_call, x_nil, x_cons, x_tup, x_lst, x_noPart, x_part, x_sl, x_test, x_and, x_or, x_not, x_yes, x_andV, x_orV, x_notV, x_if, x_it, x_gname, x_seq, x_skip, x_brk, x_cont, x_ret, x_retN, x_drop, x_ifS, x_set, x_setO, x_asg, x_sortSet, x_for, x_get, x_din, x_dnotin, List.set_cons_zero, List.set_cons_succ, List.getElem?_cons_zero, List.getElem?_cons_succ, List.length_cons, List.length_nil, Option.some.injEq, exists_eq_left', D.bl.injEq, D.int.injEq, fLen, fB0, List.length_map, Int.ofNat_lt, decide_eq_true_eq]
  by_cases hat : at_ < f.length
  · rw [if_pos hat]
    simp only [x_var, x_c, x_imm, x_op, x_un, x_cb, x_call, x_nil, x_cons, x_tup, x_lst, x_noPart, x_part, x_sl, x_test, x_and, x_or, x_not, x_yes, x_andV, x_orV, x_notV, x_if, x_it, x_gname, x_seq, x_skip, x_brk, x_cont, x_ret, x_retN, x_drop, x_ifS, x_set, x_setO, x_asg, x_sortSet, x_for, x_get, x_din, x_dnotin, List.set_cons_zero, List.set_cons_succ, List.getElem?_cons_zero, List.getElem?_cons_succ, List.length_cons, List.length_nil, Option.some.injEq, exists_eq_left', D.bl.injEq, D.int.injEq, dM, fSub, fItems, atI_2]
    rw [← dM]
    refine forL_inv dS (fun rest δ => ∃ (f' : List Nat) (done : List Stp) (b c d e : Option D), δ = [some (dM m), some a, some (.lst (f'.map dI)), some (.int (at_ : Int)), b, c, d, e] ∧ done ++ rest = m.sp ∧ (∃ g, f' = f ++ g) ∧ f'.Nodup ∧ (∀ x ∈ f', EC m.sp S x) ∧ (∀ x ∈ f', x < N) ∧ ∀ x v y, f[at_]? = some x → (x, [], v, y) ∈ done → y ∈ f') m.sp _ ⟨f, [], b, c, d, e, rfl, rfl, ⟨[], by simp⟩, nd, hcl, hlt, fun x v y _ h => nomatch h⟩ ?_ ?_
    · rintro δ ⟨f', done, b, c, d, e, rfl, hd, ⟨g, rfl⟩, nd', hcl', hlt', hx⟩
      simp only [x_var, x_c, x_imm, x_op, x_un, x_cb, x_call, x_nil, x_cons, x_tup, x_lst, x_noPart, x_part, x_sl, x_test, x_and, x_or, x_not, x_yes, x_andV, x_orV, x_notV, x_if, x_it, x_gname, x_seq, x_skip, x_brk, x_cont, x_ret, x_retN, x_drop, x_ifS, x_set, x_setO, x_asg, x_sortSet, x_for, x_get, x_din, x_dnotin, List.set_cons_zero, List.set_cons_succ, List.getElem?_cons_zero, List.getElem?_cons_succ, List.length_cons, List.length_nil, Option.some.injEq, exists_eq_left', D.bl.injEq, D.int.injEq, dAug]
      refine ⟨N - (at_ + 1), by omega, at_ + 1, f ++ g, b, c, d, e, rfl, by simp; omega, rfl, nd', fun x h => List.mem_append_left _ (hsub x h), hcl', hlt', fun i x v y hi hi2 hs => ?_⟩
      rw [List.append_nil] at hd
      rw [hd] at hx
      have hil : i < f.length := by omega
      rw [List.getElem?_append_left hil] at hi2
      rcases Nat.lt_or_ge i at_ with h1 | h1
      · exact List.mem_append_left _ (hdone i x v y h1 hi2 hs)
      · have : i = at_ := by omega
        subst this
        exact hx x v y hi2 hs
    · rintro s rest δ ⟨f', done, b, c, d, e, rfl, hd, ⟨g, rfl⟩, nd', hcl', hlt', hx⟩ KK hK
      obtain ⟨p, u, v, q⟩ := s
      have hs : (p, u, v, q) ∈ m.sp := by rw [← hd]; simp
      have e1 : atI ((f ++ g).map dI) (at_ : Int) = some (dI (f.getD at_ 0)) := by
        rw [atI_nat, List.getElem?_map, List.getElem?_append_left hat, List.getElem?_eq_getElem hat, List.getD_eq_getElem?_getD, List.getElem?_eq_getElem hat]
        rfl
      have e2 : f[at_]? = some (f.getD at_ 0) := by
        rw [List.getElem?_eq_getElem hat, List.getD_eq_getElem?_getD, List.getElem?_eq_getElem hat]
        rfl
      have e3 : eqb (.int (p : Int)) (dI (f.getD at_ 0)) = decide (p = f.getD at_ 0) := eqb_nat p _
      have e4 : mem (.int (q : Int)) ((f ++ g).map dI) = decide (q ∈ f ++ g) := mem_ints q _
      have e5 : shL 60 ((f ++ g).map dI) = true := shL_ints 60 _
      have e6 : sc (.int (p : Int)) (dI (f.getD at_ 0)) = true := rfl
      have e7 : sc (.str u) (.str []) = true := rfl
      have keep : ∀ {b c d e : Option D}, ((p = f.getD at_ 0 ∧ u = []) → q ∈ f ++ g) → KK [some (dM m), some a, some (.lst ((f ++ g).map dI)), some (.int (at_ : Int)), b, c, d, e] := fun {b c d e} hc => by
        refine hK _ ⟨f ++ g, done ++ [(p, u, v, q)], b, c, d, e, rfl, by rw [List.append_assoc]; exact hd, ⟨g, rfl⟩, nd', hcl', hlt', fun x v' y h1 h2 => ?_⟩
        rcases List.mem_append.mp h2 with h2 | h2
        · exact hx x v' y h1 h2
        · have h3 := List.mem_singleton.mp h2
          simp only [Prod.mk.injEq] at h3
          obtain ⟨rfl, rfl, rfl, rfl⟩ := h3
          rw [e2] at h1
          exact hc ⟨(Option.some.inj h1).symm, rfl⟩
      simp only [dS, dgTup, dgCons, dgNil, x_gname, List.length_cons, List.length_nil, x_ifS, x_and, x_test, x_op, x_var, x_c]
      simp only [List.set_cons_succ, List.set_cons_zero, List.getElem?_cons_succ, List.getElem?_cons_zero, Option.some.injEq, exists_eq_left', fSub, e1, fEq, fNotIn, fInB, e3, e4, e5, e6, e7, eqb_str, sh_int, D.bl.injEq, Bool.true_or, true_and, decide_eq_true_eq, x_skip, dAppend]
      by_cases h1 : p = f.getD at_ 0
      · rw [if_pos h1]
        by_cases h2 : u = []
        · rw [if_pos h2]
          by_cases h3 : q ∈ f ++ g
          · simp only [h3, decide_true, Bool.not_true]
            exact keep fun _ => h3
          · simp only [h3, decide_false, Bool.not_false, if_true]
            have hfl' : (f ++ g).length ≤ N := len_le_of nd' hlt'
            simp only [x_var, x_c, x_imm, x_op, x_un, x_cb, x_call, x_nil, x_cons, x_tup, x_lst, x_noPart, x_part, x_sl, x_test, x_and, x_or, x_not, x_yes, x_andV, x_orV, x_notV, x_if, x_it, x_gname, x_seq, x_skip, x_brk, x_cont, x_ret, x_retN, x_drop, x_ifS, x_set, x_setO, x_asg, x_sortSet, x_for, x_get, x_din, x_dnotin, List.set_cons_zero, List.set_cons_succ, List.getElem?_cons_zero, List.getElem?_cons_succ, List.length_cons, List.length_nil, Option.some.injEq, exists_eq_left', D.bl.injEq, D.int.injEq, dAppend, imm, List.length_map, true_and, sizeLine_eq]
            refine ⟨by omega, ?_⟩
            have hqC : EC m.sp S q := by
              obtain ⟨p0, hp0, hE⟩ := hcl p (by rw [h1]; exact List.mem_of_getElem? e2)
              subst h2
              exact ⟨p0, hp0, .step hE hs⟩
            refine hK _ ⟨f ++ (g ++ [q]), done ++ [(p, u, v, q)], some (.int (p : Int)), some (.str u), some (.str v), some (.int (q : Int)), ?_, by rw [List.append_assoc]; exact hd, ⟨g ++ [q], rfl⟩, ?_, ?_, ?_, ?_⟩
            · rw [← List.append_assoc, List.map_append (l₂ := [q])]
              rfl
            · rw [← List.append_assoc]
              refine List.nodup_append.mpr ⟨nd', by simp, fun x hx y hy e => ?_⟩
              rw [List.mem_singleton.mp hy] at e
              exact h3 (e ▸ hx)
            · intro x hx
              rw [← List.append_assoc] at hx
              rcases List.mem_append.mp hx with hx | hx
              · exact hcl' x hx
              · rw [List.mem_singleton.mp hx]; exact hqC
            · intro x hx
              rw [← List.append_assoc] at hx
              rcases List.mem_append.mp hx with hx | hx
              · exact hlt' x hx
              · rw [List.mem_singleton.mp hx]; exact hq _ hs
            · intro x v' y g1 g2
              rw [← List.append_assoc]
              rcases List.mem_append.mp g2 with g2 | g2
              · exact List.mem_append_left _ (hx x v' y g1 g2)
              · have g3 := List.mem_singleton.mp g2
                simp only [Prod.mk.injEq] at g3
                rw [g3.2.2.2]
                simp
        · rw [if_neg h2]
          exact keep fun z => absurd z.2 h2
      · rw [if_neg h1]
        exact keep fun z => absurd z.1 h1
  · rw [if_neg hat]
    simp only [x_var, x_c, x_imm, x_op, x_un, x_cb, x_call, x_nil, x_cons, x_tup, x_lst, x_noPart, x_part, x_sl, x_test, x_and, x_or, x_not, x_yes, x_andV, x_orV, x_notV, x_if, x_it, x_gname, x_seq, x_skip, x_brk, x_cont, x_ret, x_retN, x_drop, x_ifS, x_set, x_setO, x_asg, x_sortSet, x_for, x_get, x_din, x_dnotin, List.set_cons_zero, List.set_cons_succ, List.getElem?_cons_zero, List.getElem?_cons_succ, List.length_cons, List.length_nil, Option.some.injEq, exists_eq_left', D.bl.injEq, D.int.injEq, fTuple]
    refine fSorted_ints nd fun T hT memT => ?_
    refine ⟨imm_ints T, r T hT fun q => ?_⟩
    rw [memT]
    refine ⟨hcl q, ?_⟩
    rintro ⟨p, hp, hE⟩
    induction hE with
    | refl => exact hsub p hp
    | step h1 h2 ih =>
      obtain ⟨i, hi, e⟩ := List.getElem_of_mem ih
      exact hdone i _ _ _ (by omega) (by rw [List.getElem?_eq_getElem hi, e]) h2
end PD
set_option Elab.async false
set_option linter.all false
set_option maxRecDepth 100000
set_option maxHeartbeats 2000000
namespace PD
open PySem PySem.Spec PyProof.Rows L2
/-! ### read_on -/
def nextS (sp : List Stp) (T : List Nat) (c : Nat) : List Nat := (sp.filter fun s => decide (s.2.1 = [c]) && decide (s.1 ∈ T)).map (·.2.2.2)
def F_read_on : DF := fun ds R => ∃ (m : Mch) (T : List Nat) (c N : Nat), ds = [dM m, .tup (T.map dI), .str [c]] ∧ m.sp.length < 64 ∧ N < 4096 ∧ (∀ s ∈ m.sp, s.2.2.2 < N) ∧
  ∀ T', Asc T' → (∀ q, q ∈ T' ↔ EC m.sp (nextS m.sp T c) q) → R (.tup (T'.map dI))
def M_read_on : Nat → Bool := fun i => ([] : List Nat).contains i
/- 0 machine, 1 states, 2 sign, 3 p, 4 one, 5 _, 6 q -/
def sem_read_on : DS := (dRet (dCall F_spread (dCons (dVar 0) (dCons (dLc (dIt (dOp fSub (dVar 0) (dC (.int 2)))) (dgTup 4 (dgCons (dgName 3) (dgCons (dgName 4) (dgCons (dgName 5) (dgCons (dgName 6) dgNil))))) (dAnd (dTest (dOp fEq (dVar 4) (dVar 2))) (dTest (dOp fIn (dVar 3) (dVar 1)))) (dImm (dVar 6)) [3, 4, 5, 6]) dNil))))
theorem len_read_on : ∀ ds R, F_read_on ds R → ds.length = 3 := by
  rintro ds R ⟨_, _, _, _, rfl, _⟩
  rfl
theorem own_read_on : ∀ ds R, F_read_on ds R → ∀ i, i < ds.length → M_read_on i = false := fun _ _ _ _ _ => rfl
theorem pure_read_on : ∀ ds R, F_read_on ds R → sem_read_on { nx := fun _ => R .non, rt := R } (startD 7 ds) := by
  rintro ds R ⟨m, T, c, N, rfl, l1, hN, hq, r⟩
  show sem_read_on _ [some _, some _, some _, none, none, none, none]
  simp only [sem_read_on, x_var, x_c, x_imm, x_op, x_un, x_cb, x_call, x_nil, x_cons, x_tup, x_lst, x_noPart, x_part, x_sl, x_test, x_and, x_or, x_not, x_yes, x_andV, x_orV, x_notV, x_if, x_it, x_gname, x_seq, x_skip, x_brk, x_cont, x_ret, x_retN, x_drop, x_ifS, x_set, x_setO, x_asg, x_sortSet, x_for, x_get, x_din, x_dnotin, List.set_cons_zero, List.set_cons_succ, List.getElem?_cons_zero, List.getElem?_cons_succ, List.length_cons, List.length_nil, Option.some.injEq, exists_eq_left', D.bl.injEq, D.int.injEq, dM, fSub, fItems, dLcZ, atI_2, wipeD, List.length_map]
  rw [← dM]
  refine ⟨len_steps l1, by simp, ?_⟩
  refine lcD_fm dS (fun s => decide (s.2.1 = [c]) && decide (s.1 ∈ T)) (fun s => dI s.2.2.2) m.sp [] (fun s hs Q q => ?_) ?_
  · obtain ⟨p, u, v, qq⟩ := s
    have e4 : mem (.int (p : Int)) (T.map dI) = decide (p ∈ T) := mem_ints p T
    have e6 : sc (.str u) (.str [c]) = true := rfl
    simp only [dS, dgTup, dgCons, dgNil, x_var, x_c, x_imm, x_op, x_un, x_cb, x_call, x_nil, x_cons, x_tup, x_lst, x_noPart, x_part, x_sl, x_test, x_and, x_or, x_not, x_yes, x_andV, x_orV, x_notV, x_if, x_it, x_gname, x_seq, x_skip, x_brk, x_cont, x_ret, x_retN, x_drop, x_ifS, x_set, x_setO, x_asg, x_sortSet, x_for, x_get, x_din, x_dnotin, List.set_cons_zero, List.set_cons_succ, List.getElem?_cons_zero, List.getElem?_cons_succ, List.length_cons, List.length_nil, Option.some.injEq, exists_eq_left', D.bl.injEq, D.int.injEq, fEq, fIn, fInB, eqb_str, e4, e6, fl_ints, fl, true_and, Bool.true_or, decide_eq_true_eq, imm]
    by_cases h1 : u = [c]
    · by_cases h2 : p ∈ T
      · simpa [h1, h2] using q
      · simpa [h1, h2] using q
    · simpa [h1] using q
  · refine ⟨m, _, nextS m.sp T c, N, rfl, .inl ?_, l1, ?_, hN, ?_, hq, r⟩
    · rw [List.nil_append]
      unfold nextS
      rw [List.map_map]
      rfl
    · unfold nextS
      rw [List.length_map]
      have := List.length_filter_le (fun s : Stp => decide (s.2.1 = [c]) && decide (s.1 ∈ T)) m.sp
      omega
    · intro p hp
      unfold nextS at hp
      obtain ⟨s, hs, rfl⟩ := List.mem_map.mp hp
      exact hq s (List.mem_filter.mp hs).1
/-! ### reading -/
def dT (T : List Nat) : D := .tup (T.map dI)
theorem eqvAll_ints : ∀ a b : List Nat, PyData.eqvAll (toPyL (a.map dI)) (toPyL (b.map dI)) = decide (a = b)
  | [], [] => by simp [toPyL, PyData.eqvAll]
  | [], y :: b => by simp [toPyL, PyData.eqvAll]
  | x :: a, [] => by simp [toPyL, PyData.eqvAll]
  | x :: a, y :: b => by
    have h := eqvAll_ints a b
    have e := eqb_nat x y
    unfold eqb at e
    simp only [List.map_cons, toPyL, PyData.eqvAll, h, e]
    rw [Bool.eq_iff_iff]
    simp
theorem eqb_dT (a b : List Nat) : eqb (dT a) (dT b) = decide (a = b) := by
  unfold eqb dT
  simp only [toPy, PyData.eqv]
  exact eqvAll_ints a b
theorem dT_inj {a b : List Nat} (h : dT a = dT b) : a = b := by
  have := eqb_dT a b
  rw [h] at this
  have e : eqb (dT b) (dT b) = true := by rw [eqb_dT]; simp
  rw [e] at this
  exact of_decide_eq_true this.symm
theorem mem_dT (T : List Nat) (F : List (List Nat)) : mem (dT T) (F.map dT) = decide (T ∈ F) := by
  unfold mem
  rw [List.any_map, Bool.eq_iff_iff, List.any_eq_true, decide_eq_true_eq]
  constructor
  · rintro ⟨x, hx, e⟩
    have e : eqb (dT x) (dT T) = true := e
    rw [eqb_dT, decide_eq_true_eq] at e
    rwa [← e]
  · intro h
    exact ⟨T, h, by show eqb (dT T) (dT T) = true; rw [eqb_dT]; simp⟩
theorem idx_dT {T : List Nat} : ∀ {F : List (List Nat)}, T ∈ F → ∃ j, idx (F.map dT) (dT T) = some j ∧ F[j]? = some T
  | [], h => nomatch h
  | x :: F, h => by
    unfold idx
    rw [List.map_cons, List.findIdx?_cons, eqb_dT]
    by_cases e : x = T
    · exact ⟨0, by simp [e], by simp [e]⟩
    · have h' : T ∈ F := (List.mem_cons.mp h).resolve_left fun z => e z.symm
      obtain ⟨j, h1, h2⟩ := idx_dT h'
      unfold idx at h1
      exact ⟨j + 1, by simp [e, h1], by simpa using h2⟩
theorem sh_dT (k : Nat) (T : List Nat) : sh (k + 1) (dT T) = true := by
  unfold dT sh
  exact shL_ints k T
theorem shL_dT (k : Nat) (F : List (List Nat)) : shL (k + 1) (F.map dT) = true := shL_iff.mpr fun d m => by
  obtain ⟨x, _, rfl⟩ := List.mem_map.mp m
  exact sh_dT k x
theorem imm_dT (T : List Nat) : imm (dT T) = true := by
  unfold dT
  simp only [imm]
  exact imm_ints T
def subs : Nat → List (List Nat)
  | 0 => [[]]
  | n + 1 => subs n ++ (subs n).map (· ++ [n])
theorem subs_len : ∀ n, (subs n).length = 2 ^ n
  | 0 => rfl
  | n + 1 => by
    unfold subs
    rw [List.length_append, List.length_map, subs_len n, Nat.pow_succ]
    omega
theorem asc_subs : ∀ (n : Nat) (T : List Nat), Asc T → (∀ x ∈ T, x < n) → T ∈ subs n
  | 0, [], _, _ => by simp [subs]
  | 0, x :: T, _, h => absurd (h x (List.mem_cons_self ..)) (Nat.not_lt_zero _)
  | n + 1, T, hT, h => by
    unfold subs
    rw [List.mem_append]
    by_cases hn : n ∈ T
    · right
      obtain ⟨A, B, rfl⟩ := List.append_of_mem hn
      have hB : B = [] := by
        match B with
        | [] => rfl
        | y :: B =>
          have h1 := (List.pairwise_append.mp hT).2.1
          have h2 := (List.pairwise_cons.mp h1).1 y (List.mem_cons_self ..)
          have h3 := h y (by simp)
          omega
      subst hB
      refine List.mem_map.mpr ⟨A, asc_subs n A (List.pairwise_append.mp hT).1 fun x hx => ?_, rfl⟩
      exact (List.pairwise_append.mp hT).2.2 x hx n (by simp)
    · left
      exact asc_subs n T hT fun x hx => by
        have := h x hx
        rcases Nat.lt_or_ge x n with a | a
        · exact a
        · have : x = n := by omega
          exact absurd (this ▸ hx) hn
theorem nodup_len {α : Type} [DecidableEq α] : ∀ (l m : List α), l.Nodup → (∀ x ∈ l, x ∈ m) → l.length ≤ m.length := by
  intro l
  induction l with
  | nil => intro m _ _; exact Nat.zero_le _
  | cons x l ih =>
    intro m hn hs
    obtain ⟨h1, h2⟩ := List.nodup_cons.mp hn
    have hx := hs x (List.mem_cons_self ..)
    have := ih (m.erase x) h2 fun y hy => by
      have hne : y ≠ x := fun e => h1 (e ▸ hy)
      exact (List.mem_erase_of_ne hne).mpr (hs y (List.mem_cons_of_mem _ hy))
    rw [List.length_erase_of_mem hx] at this
    have hpos : 0 < m.length := List.length_pos_of_mem hx
    rw [List.length_cons]
    omega
theorem len_pow {F : List (List Nat)} {N : Nat} (nd : F.Nodup) (h : ∀ T ∈ F, Asc T ∧ ∀ x ∈ T, x < N) : F.length ≤ 2 ^ N := by
  rw [← subs_len N]
  exact nodup_len F (subs N) nd fun T hT => asc_subs N T (h T hT).1 (h T hT).2
structure RdOk (h : Mch) (rows : List (List Nat)) (ends : List Nat) (Ts : List (List Nat)) : Prop where
  len : rows.length = Ts.length
  start : ∃ T, Ts[0]? = some T ∧ ∀ q, q ∈ T ↔ EC h.sp h.st q
  row : ∀ (k : Nat) row T, rows[k]? = some row → Ts[k]? = some T → row.length = 3 ∧ ∀ (j r : Nat), row[j]? = some r → ∃ T', Ts[r]? = some T' ∧ ∀ q, q ∈ T' ↔ EC h.sp (nextS h.sp T (97 + j)) q
  endA : Asc ends
  ends : ∀ k, k ∈ ends ↔ ∃ T, Ts[k]? = some T ∧ ∃ q ∈ T, q ∈ h.en
def dRd (rows : List (List Nat)) (ends : List Nat) : D := .tup [.tup (rows.map dT), .tup (ends.map dI)]
def F_reading : DF := fun ds R => ∃ m : Mch, ds = [dM m] ∧ m.st.length < 4096 ∧ m.en.length < 4096 ∧ m.sp.length + sumM m.sp < 64 ∧ (∀ s ∈ m.sp, s.2.1.length ≤ 1000) ∧ m.many + sumM m.sp ≤ 20 ∧ (∀ p ∈ m.st, p < m.many) ∧ (∀ s ∈ m.sp, s.1 < m.many ∧ s.2.2.2 < m.many) ∧
  ∀ h rows ends Ts, Ord h (m.many + sumM m.sp) m.st (fineL m.many m.sp) m.en → RdOk h rows ends Ts → rows.length ≤ 2 ^ 20 → R (dRd rows ends)
def M_reading : Nat → Bool := fun i => ([2, 3] : List Nat).contains i
/- 0 machine, 1 here, 2 found, 3 rows, 4 at, 5 row, 6 sign, 7 after, 8 k, 9 q -/
def sem_reading : DS := (dSeq (dSet 1 (dCall F_fine (dCons (dVar 0) dNil)))
  (dSeq (dSetO 2 (dLst (dCons (dCall F_spread (dCons (dVar 1) (dCons (dOp fSub (dVar 1) (dC (.int 1))) dNil))) dNil)))
  (dSeq (dSetO 3 (dLst dNil))
  (dSeq (dSet 4 (dC (.int 0)))
  (dSeq (dWhile (dTest (dOp (fB0 fun i j => decide (i < j)) (dVar 4) (dCB fLen (dCons (dVar 2) dNil)))) (dSeq (dSet 5 (dTup dNil))
  (dSeq (dFor (dIt (dC (.str [97, 98, 99]))) (dgName 6) (dSeq (dSet 7 (dCall F_read_on (dCons (dVar 1) (dCons (dOp fSub (dVar 2) (dVar 4)) (dCons (dVar 6) dNil)))))
  (dSeq (dIfS (dTest (dOp fNotIn (dVar 7) (dVar 2))) (dAppend 2 (dVar 7)) dSkip)
  (dAugT 5 (dTup (dCons (dIdx (dVar 2) (dCons (dVar 7) dNil)) dNil))))))
  (dSeq (dAppend 3 (dVar 5))
  (dAug (fun i j => i + j) 4 (dC (.int 1)))))))
  (dRet (dTup (dCons (dCB fTuple (dCons (dVar 3) dNil)) (dCons (dCB fTuple (dCons (dLc (dRng1 (dCons (dCB fLen (dCons (dVar 2) dNil)) dNil)) (dgName 8) (dTest (dCB fAny (dCons (dLcE (dIt (dOp fSub (dVar 2) (dVar 8))) (dgName 9) dYes (dOp fIn (dVar 9) (dOp fSub (dVar 1) (dC (.int 3)))) [9]) dNil))) (dImm (dVar 8)) [8]) dNil)) dNil)))))))))
theorem len_reading : ∀ ds R, F_reading ds R → ds.length = 1 := by
  rintro ds R ⟨_, rfl, _⟩
  rfl
theorem own_reading : ∀ ds R, F_reading ds R → ∀ i, i < ds.length → M_reading i = false := by
  rintro ds R ⟨_, rfl, _⟩ i hi
  have : i = 0 := by simpa using hi
  subst this
  rfl
theorem sub0 {m : Mch} {R : D → Prop} : fSub (dM m) (.int 0) R ↔ R (.int (m.many : Int)) := by simp [dM, fSub]
theorem sub1 {m : Mch} {R : D → Prop} : fSub (dM m) (.int 1) R ↔ R (.tup (m.st.map dI)) := by simp [dM, fSub]
theorem sub2 {m : Mch} {R : D → Prop} : fSub (dM m) (.int 2) R ↔ R (.tup (m.sp.map dS)) := by simp [dM, fSub]
theorem sub3 {m : Mch} {R : D → Prop} : fSub (dM m) (.int 3) R ↔ R (.tup (m.en.map dI)) := by simp [dM, fSub]
theorem nextS_lt {sp : List Stp} {T : List Nat} {c N : Nat} (h : ∀ s ∈ sp, s.2.2.2 < N) {q : Nat} (hq : EC sp (nextS sp T c) q) : q < N := by
  obtain ⟨p, hp, e⟩ := hq
  unfold nextS at hp
  obtain ⟨s, hs, rfl⟩ := List.mem_map.mp hp
  cases e with
  | refl => exact h s (List.mem_filter.mp hs).1
  | step _ hs2 => exact h _ hs2
theorem ec_lt {sp : List Stp} {S : List Nat} {N : Nat} (h : ∀ s ∈ sp, s.2.2.2 < N) (hS : ∀ p ∈ S, p < N) {q : Nat} (hq : EC sp S q) : q < N := by
  obtain ⟨p, hp, e⟩ := hq
  cases e with
  | refl => exact hS _ hp
  | step _ hs2 => exact h _ hs2
theorem fineL_lt : ∀ (l : List Stp) (n many : Nat), many ≤ n → (∀ s ∈ l, s.1 < many ∧ s.2.2.2 < many) → ∀ s ∈ fineL n l, s.1 < n + sumM l ∧ s.2.2.2 < n + sumM l
  | [], n, many, _, _, s, hs => by simp [fineL] at hs
  | t :: l, n, many, hn, h, s, hs => by
    have ht := h t (List.mem_cons_self ..)
    have hsum : sumM (t :: l) = moreS t + sumM l := by simp [sumM]
    unfold fineL at hs
    rcases List.mem_append.mp hs with hs | hs
    · have tail : ∀ (w : Wd) (k : Nat), k + w.length ≤ n + moreS t → ∀ s ∈ tailC t.2.2.2 k w, s.1 < n + sumM (t :: l) ∧ s.2.2.2 < n + sumM (t :: l) := by
        intro w
        induction w with
        | nil => intro k _ s hs; simp [tailC] at hs
        | cons b w ih =>
          intro k hk s hs
          rw [List.length_cons] at hk
          match w, ih, hs, hk with
          | [], _, hs, hk =>
            simp only [tailC, List.mem_singleton] at hs
            subst hs
            simp only [List.length_nil] at hk
            exact ⟨by simp only; omega, by simp only; omega⟩
          | c :: r, ih, hs, hk =>
            unfold tailC at hs
            rcases List.mem_cons.mp hs with hs | hs
            · subst hs
              rw [List.length_cons] at hk
              exact ⟨by simp only; omega, by simp only; omega⟩
            · exact ih (k + 1) (by omega) s hs
      unfold cutS at hs
      split at hs
      · next a b r e =>
        have hm : moreS t = (b :: r).length := by unfold moreS; rw [e]; simp
        rcases List.mem_cons.mp hs with hs | hs
        · subst hs
          simp only [List.length_cons] at hm
          exact ⟨by simp only; omega, by simp only; omega⟩
        · exact tail (b :: r) n (by omega) s hs
      · rw [List.mem_singleton.mp hs]
        omega
    · have := fineL_lt l (n + moreS t) many (by omega) (fun s hs => h s (List.mem_cons_of_mem _ hs)) s hs
      omega
theorem pure_reading : ∀ ds R, F_reading ds R → sem_reading { nx := fun _ => R .non, rt := R } (startD 10 ds) := by
  rintro ds R ⟨m, rfl, l1, l3, l2, lw, hN, hst, hsp, r⟩
  show sem_reading _ [some _, none, none, none, none, none, none, none, none, none]
  simp only [sem_reading, x_var, x_c, x_imm, x_op, x_un, x_cb, x_call, x_nil, x_cons, x_tup, x_lst, x_noPart, x_part, x_sl, x_test, x_and, x_or, x_not, x_yes, x_andV, x_orV, x_notV, x_if, x_it, x_gname, x_seq, x_skip, x_brk, x_cont, x_ret, x_retN, x_drop, x_ifS, x_set, x_setO, x_asg, x_sortSet, x_for, x_get, x_din, x_dnotin, List.set_cons_zero, List.set_cons_succ, List.getElem?_cons_zero, List.getElem?_cons_succ, List.length_cons, List.length_nil, Option.some.injEq, exists_eq_left', D.bl.injEq, D.int.injEq]
  refine ⟨m, rfl, l1, l3, l2, lw, fun h oh => ?_⟩
  let N := m.many + sumM m.sp
  have hlt : ∀ s ∈ h.sp, s.2.2.2 < N := fun s hs => (fineL_lt m.sp m.many m.many (Nat.le_refl _) hsp s ((oh.sp s).mp hs)).2
  have hst' : ∀ p ∈ h.st, p < N := fun p hp => by
    have := hst p ((oh.st p).mp hp)
    show p < m.many + sumM m.sp
    omega
  have l5 : h.sp.length < 64 := by
    have := fineL_len m.many m.sp
    have : h.sp.length ≤ (fineL m.many m.sp).length := nodup_len _ _ oh.spN fun x hx => (oh.sp x).mp hx
    omega
  have l6 : h.st.length < 4096 := by
    have := len_le_of (asc_nodup oh.stA) hst'
    show _ < _
    omega
  have hN2 : (2 : Nat) ^ N ≤ 1048576 := Nat.pow_le_pow_right (by decide) hN (n := 2)
  simp only [x_var, x_c, x_imm, x_op, x_un, x_cb, x_call, x_nil, x_cons, x_tup, x_lst, x_noPart, x_part, x_sl, x_test, x_and, x_or, x_not, x_yes, x_andV, x_orV, x_notV, x_if, x_it, x_gname, x_seq, x_skip, x_brk, x_cont, x_ret, x_retN, x_drop, x_ifS, x_set, x_setO, x_asg, x_sortSet, x_for, x_get, x_din, x_dnotin, List.set_cons_zero, List.set_cons_succ, List.getElem?_cons_zero, List.getElem?_cons_succ, List.length_cons, List.length_nil, Option.some.injEq, exists_eq_left', D.bl.injEq, D.int.injEq, sub1]
  refine ⟨h, _, h.st, N, rfl, .inr rfl, l5, l6, by show m.many + sumM m.sp < 4096; omega, hst', hlt, fun T0 hT0 mT0 => ?_⟩
  simp only [x_var, x_c, x_imm, x_op, x_un, x_cb, x_call, x_nil, x_cons, x_tup, x_lst, x_noPart, x_part, x_sl, x_test, x_and, x_or, x_not, x_yes, x_andV, x_orV, x_notV, x_if, x_it, x_gname, x_seq, x_skip, x_brk, x_cont, x_ret, x_retN, x_drop, x_ifS, x_set, x_setO, x_asg, x_sortSet, x_for, x_get, x_din, x_dnotin, List.set_cons_zero, List.set_cons_succ, List.getElem?_cons_zero, List.getElem?_cons_succ, List.length_cons, List.length_nil, Option.some.injEq, exists_eq_left', D.bl.injEq, D.int.injEq, flatD, immL, sizeLine_eq]
  refine ⟨by decide, by rw [show imm (D.tup (T0.map dI)) = true from imm_dT T0]; rfl, by decide, by decide, by decide, by decide, ?_⟩
  -- the loop
  let Rw : List (List Nat) → List Nat → List Nat → Nat → Prop := fun F row T n => row.length = n ∧ ∀ (j r : Nat), row[j]? = some r → ∃ T', F[r]? = some T' ∧ ∀ q, q ∈ T' ↔ EC h.sp (nextS h.sp T (97 + j)) q
  have grow : ∀ {F : List (List Nat)} {row T : List Nat} {n : Nat} (g : List (List Nat)), Rw F row T n → Rw (F ++ g) row T n := fun {F row T n} g ⟨a, b⟩ => ⟨a, fun j r hr => by
    obtain ⟨T', h1, h2⟩ := b j r hr
    exact ⟨T', by rw [List.getElem?_append_left (List.getElem?_eq_some_iff.mp h1).1]; exact h1, h2⟩⟩
  let Gd : List (List Nat) → Prop := fun F => F.Nodup ∧ F[0]? = some T0 ∧ ∀ T ∈ F, Asc T ∧ ∀ x ∈ T, x < N
  have flen : ∀ {F : List (List Nat)}, Gd F → F.length ≤ 1048576 := fun {F} g => Nat.le_trans (len_pow g.1 g.2.2) hN2
  have g0 : Gd [T0] := ⟨by simp, rfl, fun T hT => by
    rw [List.mem_singleton.mp hT]
    exact ⟨hT0, fun x hx => ec_lt hlt hst' ((mT0 x).mp hx)⟩⟩
  refine ⟨fun k δ => ∃ (at_ : Nat) (F : List (List Nat)) (rows : List (List Nat)) (a b c d e : Option D), k = 1048576 - at_ ∧ at_ ≤ F.length ∧ δ = [some (dM m), some (dM h), some (.lst (F.map dT)), some (.lst (rows.map dT)), some (.int (at_ : Int)), a, b, c, d, e] ∧ Gd F ∧ rows.length = at_ ∧
    (∀ (k : Nat) row T, rows[k]? = some row → F[k]? = some T → Rw F row T 3), ⟨_, 0, [T0], [], none, none, none, none, none, rfl, by simp, rfl, g0, rfl, fun k row T hk => by simp at hk⟩, ?_⟩
  rintro k δ ⟨at_, F, rows, a, b, c, d, e, rfl, hle, rfl, gF, hrl, hrows⟩
  have hFl := flen gF
  simp only [x_var, x_c, x_imm, x_op, x_un, x_cb, x_call, x_nil, x_cons, x_tup, x_lst, x_noPart, x_part, x_sl, x_test, x_and, x_or, x_not, x_yes, x_andV, x_orV, x_notV, x_if, x_it, x_gname, x_seq, x_skip, x_brk, x_cont, x_ret, x_retN, x_drop, x_ifS, x_set, x_setO, x_asg, x_sortSet, x_for, x_get, x_din, x_dnotin, List.set_cons_zero, List.set_cons_succ, List.getElem?_cons_zero, List.getElem?_cons_succ, List.length_cons, List.length_nil, Option.some.injEq, exists_eq_left', D.bl.injEq, D.int.injEq, fLen, fB0, List.length_map, Int.ofNat_lt, decide_eq_true_eq]
  by_cases hat : at_ < F.length
  · rw [if_pos hat]
    have hTk : F[at_]? = some F[at_] := List.getElem?_eq_getElem hat
    obtain ⟨T, eT⟩ : ∃ T, T = F[at_] := ⟨_, rfl⟩
    rw [← eT] at hTk
    simp only [x_var, x_c, x_imm, x_op, x_un, x_cb, x_call, x_nil, x_cons, x_tup, x_lst, x_noPart, x_part, x_sl, x_test, x_and, x_or, x_not, x_yes, x_andV, x_orV, x_notV, x_if, x_it, x_gname, x_seq, x_skip, x_brk, x_cont, x_ret, x_retN, x_drop, x_ifS, x_set, x_setO, x_asg, x_sortSet, x_for, x_get, x_din, x_dnotin, List.set_cons_zero, List.set_cons_succ, List.getElem?_cons_zero, List.getElem?_cons_succ, List.length_cons, List.length_nil, Option.some.injEq, exists_eq_left', D.bl.injEq, D.int.injEq, fItems]
    refine ⟨by decide, ?_⟩
    refine forL_inv (fun c : Nat => D.str [c]) (fun rest δ => ∃ (done : List Nat) (F' : List (List Nat)) (row : List Nat) (b c d e : Option D), δ = [some (dM m), some (dM h), some (.lst (F'.map dT)), some (.lst (rows.map dT)), some (.int (at_ : Int)), some (dT row), b, c, d, e] ∧ done ++ rest = [97, 98, 99] ∧ (∃ g, F' = F ++ g) ∧ Gd F' ∧ Rw F' row T done.length) [97, 98, 99] _ ⟨[], F, [], b, c, d, e, rfl, rfl, ⟨[], by simp⟩, gF, rfl, fun j r hr => by simp at hr⟩ ?_ ?_
    · rintro δ ⟨done, F', row, b, c, d, e, rfl, hd, ⟨g, rfl⟩, gF', hrow⟩
      rw [List.append_nil] at hd
      subst hd
      simp only [x_var, x_c, x_imm, x_op, x_un, x_cb, x_call, x_nil, x_cons, x_tup, x_lst, x_noPart, x_part, x_sl, x_test, x_and, x_or, x_not, x_yes, x_andV, x_orV, x_notV, x_if, x_it, x_gname, x_seq, x_skip, x_brk, x_cont, x_ret, x_retN, x_drop, x_ifS, x_set, x_setO, x_asg, x_sortSet, x_for, x_get, x_din, x_dnotin, List.set_cons_zero, List.set_cons_succ, List.getElem?_cons_zero, List.getElem?_cons_succ, List.length_cons, List.length_nil, Option.some.injEq, exists_eq_left', D.bl.injEq, D.int.injEq, dAppend, dAug, imm_dT, List.length_map, true_and, sizeLine_eq]
      refine ⟨by omega, 1048576 - (at_ + 1), by omega, at_ + 1, F ++ g, rows ++ [row], some (dT row), b, c, d, e, rfl, by rw [List.length_append]; omega, by simp, gF', by simp [hrl], fun k row' T' hk hT' => ?_⟩
      rcases Nat.lt_or_ge k rows.length with h1 | h1
      · rw [List.getElem?_append_left h1] at hk
        rw [List.getElem?_append_left (by omega)] at hT'
        exact grow g (hrows k row' T' hk hT')
      · rw [List.getElem?_append_right h1] at hk
        have hk0 : k - rows.length = 0 := by
          have := (List.getElem?_eq_some_iff.mp hk).1
          simp at this
          omega
        rw [hk0] at hk
        simp only [List.getElem?_cons_zero, Option.some.injEq] at hk
        subst hk
        have ek : k = at_ := by omega
        rw [ek, List.getElem?_append_left hat, hTk] at hT'
        cases hT'
        exact hrow
    · rintro ch rest δ ⟨done, F', row, b, c, d, e, rfl, hd, ⟨g, rfl⟩, gF', hrow⟩ KK hK
      have e1 : atI ((F ++ g).map dT) (at_ : Int) = some (dT T) := by
        rw [atI_nat, List.getElem?_map, List.getElem?_append_left hat, hTk]
        rfl
      have hch : ch = 97 + done.length := by
        match done, hd with
        | [], hd => simp at hd; simp [hd.1]
        | [_], hd => simp at hd; simp [hd.2.1]
        | [_, _], hd => simp at hd; simp [hd.2.2.1]
        | _ :: _ :: _ :: _, hd => simp at hd
      simp only [x_var, x_c, x_imm, x_op, x_un, x_cb, x_call, x_nil, x_cons, x_tup, x_lst, x_noPart, x_part, x_sl, x_test, x_and, x_or, x_not, x_yes, x_andV, x_orV, x_notV, x_if, x_it, x_gname, x_seq, x_skip, x_brk, x_cont, x_ret, x_retN, x_drop, x_ifS, x_set, x_setO, x_asg, x_sortSet, x_for, x_get, x_din, x_dnotin, List.set_cons_zero, List.set_cons_succ, List.getElem?_cons_zero, List.getElem?_cons_succ, List.length_cons, List.length_nil, Option.some.injEq, exists_eq_left', D.bl.injEq, D.int.injEq, fSub, e1]
      refine ⟨h, T, ch, N, rfl, l5, by show m.many + sumM m.sp < 4096; omega, hlt, fun T' hT' mT' => ?_⟩
      have e2 : mem (D.tup (T'.map dI)) ((F ++ g).map dT) = decide (T' ∈ F ++ g) := mem_dT T' _
      have e3 : sh 60 (D.tup (T'.map dI)) = true := sh_dT 59 T'
      have e4 : shL 60 ((F ++ g).map dT) = true := shL_dT 59 _
      have imT : imm (D.tup (T'.map dI)) = true := imm_dT T'
      have hT'C : Asc T' ∧ ∀ x ∈ T', x < N := ⟨hT', fun x hx => nextS_lt hlt ((mT' x).mp hx)⟩
      have fin : ∀ {DD : DEnds} {d e : Option D} (g' : List (List Nat)), Gd (F ++ g') → (∃ z, F ++ g' = (F ++ g) ++ z) → T' ∈ F ++ g' → (DD.nx = KK) → dAugT 5 (dTup (dCons (dIdx (dVar 2) (dCons (dVar 7) dNil)) dNil)) DD [some (dM m), some (dM h), some (.lst ((F ++ g').map dT)), some (.lst (rows.map dT)), some (.int (at_ : Int)), some (dT row), some (.str [ch]), some (dT T'), d, e] := fun {DD d e} g' hg' ⟨z, hz⟩ hin eK => by
        obtain ⟨j, h1, h2⟩ := idx_dT hin
        have e5 : shL 60 ((F ++ g').map dT) = true := shL_dT 59 _
        have e6 : sh 60 (dT T') = true := sh_dT 59 T'
        unfold dAugT
        simp only [List.getElem?_cons_succ, List.getElem?_cons_zero]
        unfold dT at *
        simp only [x_var, x_c, x_imm, x_op, x_un, x_cb, x_call, x_nil, x_cons, x_tup, x_lst, x_noPart, x_part, x_sl, x_test, x_and, x_or, x_not, x_yes, x_andV, x_orV, x_notV, x_if, x_it, x_gname, x_seq, x_skip, x_brk, x_cont, x_ret, x_retN, x_drop, x_ifS, x_set, x_setO, x_asg, x_sortSet, x_for, x_get, x_din, x_dnotin, List.set_cons_zero, List.set_cons_succ, List.getElem?_cons_zero, List.getElem?_cons_succ, List.length_cons, List.length_nil, Option.some.injEq, exists_eq_left', D.bl.injEq, D.int.injEq, dIdx, e5, e6, h1, immL, imm, List.length_map, imm_ints, sizeLine_eq, true_and]
        refine ⟨by decide, rfl, by have := hrow.1; have := hd; have h9 := congrArg List.length hd; simp at h9; omega, ?_⟩
        rw [eK]
        refine hK _ ⟨done ++ [ch], F ++ g', row ++ [j], some (.str [ch]), some (dT T'), d, e, ?_, by rw [List.append_assoc]; exact hd, ⟨g', rfl⟩, hg', ?_⟩
        · simp [dT]
        · rw [hz]
          refine ⟨by simp [hrow.1], fun j' r' hr' => ?_⟩
          have hrow2 := grow z hrow
          rcases Nat.lt_or_ge j' row.length with q1 | q1
          · rw [List.getElem?_append_left q1] at hr'
            exact hrow2.2 j' r' hr'
          · rw [List.getElem?_append_right q1] at hr'
            have q0 : j' - row.length = 0 := by
              have := (List.getElem?_eq_some_iff.mp hr').1
              simp at this
              omega
            rw [q0] at hr'
            simp only [List.getElem?_cons_zero, Option.some.injEq] at hr'
            subst hr'
            refine ⟨T', by rw [← hz]; exact h2, fun q => ?_⟩
            have : 97 + j' = ch := by have := hrow.1; omega
            rw [this]
            exact mT' q
      simp only [x_var, x_c, x_imm, x_op, x_un, x_cb, x_call, x_nil, x_cons, x_tup, x_lst, x_noPart, x_part, x_sl, x_test, x_and, x_or, x_not, x_yes, x_andV, x_orV, x_notV, x_if, x_it, x_gname, x_seq, x_skip, x_brk, x_cont, x_ret, x_retN, x_drop, x_ifS, x_set, x_setO, x_asg, x_sortSet, x_for, x_get, x_din, x_dnotin, List.set_cons_zero, List.set_cons_succ, List.getElem?_cons_zero, List.getElem?_cons_succ, List.length_cons, List.length_nil, Option.some.injEq, exists_eq_left', D.bl.injEq, D.int.injEq, fNotIn, fInB, e2, e3, e4, true_and]
      by_cases hin : T' ∈ F ++ g
      · simp only [hin, decide_true, Bool.not_true]
        exact fin g gF' ⟨[], by simp⟩ hin rfl
      · simp only [hin, decide_false, Bool.not_false, if_true, x_var, x_c, x_imm, x_op, x_un, x_cb, x_call, x_nil, x_cons, x_tup, x_lst, x_noPart, x_part, x_sl, x_test, x_and, x_or, x_not, x_yes, x_andV, x_orV, x_notV, x_if, x_it, x_gname, x_seq, x_skip, x_brk, x_cont, x_ret, x_retN, x_drop, x_ifS, x_set, x_setO, x_asg, x_sortSet, x_for, x_get, x_din, x_dnotin, List.set_cons_zero, List.set_cons_succ, List.getElem?_cons_zero, List.getElem?_cons_succ, List.length_cons, List.length_nil, Option.some.injEq, exists_eq_left', D.bl.injEq, D.int.injEq, dAppend, imT, List.length_map, sizeLine_eq, true_and]
        have gN : Gd (F ++ (g ++ [T'])) := by
          rw [← List.append_assoc]
          obtain ⟨n1, n2, n3⟩ := gF'
          refine ⟨List.nodup_append.mpr ⟨n1, by simp, fun x hx y hy e => ?_⟩, ?_, fun U hU => ?_⟩
          · rw [List.mem_singleton.mp hy] at e
            exact hin (e ▸ hx)
          · rw [List.getElem?_append_left (List.getElem?_eq_some_iff.mp n2).1]
            exact n2
          · rcases List.mem_append.mp hU with hU | hU
            · exact n3 U hU
            · rw [List.mem_singleton.mp hU]; exact hT'C
        have h8 := flen gF'
        refine ⟨by omega, ?_⟩
        have e9 : (F ++ g).map dT ++ [D.tup (T'.map dI)] = (F ++ (g ++ [T'])).map dT := by
          rw [← List.append_assoc, List.map_append (l₂ := [T'])]
          rfl
        rw [e9]
        exact fin (g ++ [T']) gN ⟨[T'], by rw [List.append_assoc]⟩ (by simp) rfl
  · rw [if_neg hat]
    have hatE : at_ = F.length := by omega
    simp only [x_var, x_c, x_imm, x_op, x_un, x_cb, x_call, x_nil, x_cons, x_tup, x_lst, x_noPart, x_part, x_sl, x_test, x_and, x_or, x_not, x_yes, x_andV, x_orV, x_notV, x_if, x_it, x_gname, x_seq, x_skip, x_brk, x_cont, x_ret, x_retN, x_drop, x_ifS, x_set, x_setO, x_asg, x_sortSet, x_for, x_get, x_din, x_dnotin, List.set_cons_zero, List.set_cons_succ, List.getElem?_cons_zero, List.getElem?_cons_succ, List.length_cons, List.length_nil, Option.some.injEq, exists_eq_left', D.bl.injEq, D.int.injEq, fTuple, dLcZ, dRng1, fLen, List.length_map, rngD_nat, wipeD]
    refine ⟨immL_map fun T _ => imm_dT T, by omega, by simp [sizeLine_eq]; omega, by simp, ?_⟩
    let keep : Nat → Bool := fun k => (F.getD k []).any fun q => decide (q ∈ h.en)
    refine lcD_fm dI keep dI (List.range F.length) [] (fun k hk Q q => ?_) ?_
    · have hk := List.mem_range.mp hk
      have e1 : atI (F.map dT) (k : Int) = some (dT (F.getD k [])) := by
        rw [atI_nat, List.getElem?_map, List.getElem?_eq_getElem hk, List.getD_eq_getElem?_getD, List.getElem?_eq_getElem hk]
        rfl
      have hkl : (F.getD k []).length ≤ N := by
        refine len_le_of (asc_nodup ?_) ?_
        · rw [List.getD_eq_getElem?_getD, List.getElem?_eq_getElem hk]
          exact (gF.2.2 _ (List.getElem_mem hk)).1
        · rw [List.getD_eq_getElem?_getD, List.getElem?_eq_getElem hk]
          exact (gF.2.2 _ (List.getElem_mem hk)).2
      simp only [x_var, x_c, x_imm, x_op, x_un, x_cb, x_call, x_nil, x_cons, x_tup, x_lst, x_noPart, x_part, x_sl, x_test, x_and, x_or, x_not, x_yes, x_andV, x_orV, x_notV, x_if, x_it, x_gname, x_seq, x_skip, x_brk, x_cont, x_ret, x_retN, x_drop, x_ifS, x_set, x_setO, x_asg, x_sortSet, x_for, x_get, x_din, x_dnotin, List.set_cons_zero, List.set_cons_succ, List.getElem?_cons_zero, List.getElem?_cons_succ, List.length_cons, List.length_nil, Option.some.injEq, exists_eq_left', D.bl.injEq, D.int.injEq, fSub, e1, dT, fItems, List.length_map, imm_ints, dLcZ, wipeD]
      refine ⟨by rw [sizeLine_eq]; show (F.getD k []).length ≤ 16777216; have : N ≤ 20 := hN; omega, fun _ => trivial, ?_⟩
      refine lcD_m dI (fun x => D.bl (decide (x ∈ h.en))) (F.getD k []) (fun x hx Q' q' => ?_) ?_
      · have e4 : mem (.int (x : Int)) (h.en.map dI) = decide (x ∈ h.en) := mem_ints x h.en
        simp only [x_var, x_c, x_imm, x_op, x_un, x_cb, x_call, x_nil, x_cons, x_tup, x_lst, x_noPart, x_part, x_sl, x_test, x_and, x_or, x_not, x_yes, x_andV, x_orV, x_notV, x_if, x_it, x_gname, x_seq, x_skip, x_brk, x_cont, x_ret, x_retN, x_drop, x_ifS, x_set, x_setO, x_asg, x_sortSet, x_for, x_get, x_din, x_dnotin, List.set_cons_zero, List.set_cons_succ, List.getElem?_cons_zero, List.getElem?_cons_succ, List.length_cons, List.length_nil, Option.some.injEq, exists_eq_left', D.bl.injEq, D.int.injEq, sub3, fIn, fInB, fl_ints, fl, e4, true_and]
        exact q'
      · have e5 : ∀ l : List Nat, blsOf (l.map fun x => D.bl (decide (x ∈ h.en))) = some (l.map fun x => decide (x ∈ h.en)) := by
          intro l
          induction l with
          | nil => rfl
          | cons x l ih => simp only [List.map_cons, blsOf, ih]
        simp only [fAny, e5, x_var, x_c, x_imm, x_op, x_un, x_cb, x_call, x_nil, x_cons, x_tup, x_lst, x_noPart, x_part, x_sl, x_test, x_and, x_or, x_not, x_yes, x_andV, x_orV, x_notV, x_if, x_it, x_gname, x_seq, x_skip, x_brk, x_cont, x_ret, x_retN, x_drop, x_ifS, x_set, x_setO, x_asg, x_sortSet, x_for, x_get, x_din, x_dnotin, List.set_cons_zero, List.set_cons_succ, List.getElem?_cons_zero, List.getElem?_cons_succ, List.length_cons, List.length_nil, Option.some.injEq, exists_eq_left', D.bl.injEq, D.int.injEq, List.any_map]
        have e6 : ((F.getD k []).any (id ∘ fun x => decide (x ∈ h.en))) = keep k := rfl
        rw [e6]
        cases hkp : keep k with
        | true => rw [hkp] at q; simpa [imm] using q
        | false => rw [hkp] at q; simpa using q
    · rw [List.nil_append]
      refine ⟨imm_ints _, by rw [sizeLine_eq]; decide, ?_⟩
      refine r h rows ((List.range F.length).filter keep) F oh ⟨by omega, ⟨T0, gF.2.1, mT0⟩, fun k row T h1 h2 => hrows k row T h1 h2, ?_, fun k => ?_⟩ (by omega)
      · exact List.Pairwise.filter _ List.pairwise_lt_range
      · rw [List.mem_filter, List.mem_range]
        constructor
        · rintro ⟨h1, h2⟩
          refine ⟨F[k], List.getElem?_eq_getElem h1, ?_⟩
          have h3 : keep k = true := h2
          simp only [keep, List.any_eq_true, decide_eq_true_eq, List.getD_eq_getElem?_getD, List.getElem?_eq_getElem h1, Option.getD_some] at h3
          exact h3
        · rintro ⟨T, h1, q, h2, h3⟩
          obtain ⟨h4, h5⟩ := List.getElem?_eq_some_iff.mp h1
          refine ⟨h4, ?_⟩
          show keep k = true
          simp only [keep, List.any_eq_true, decide_eq_true_eq, List.getD_eq_getElem?_getD, List.getElem?_eq_getElem h4, Option.getD_some]
          exact ⟨q, by rw [h5]; exact h2, h3⟩
end PD
set_option Elab.async false
set_option linter.all false
set_option maxRecDepth 100000
set_option maxHeartbeats 2000000
namespace PD
open PySem PySem.Spec PyProof.Rows L2
/-! ### counts, count -/
def cnt (rows : List (List Nat)) (ends : List Nat) : Nat → Nat → Nat
  | 0, k => if k ∈ ends then 1 else 0
  | n + 1, k => ((rows.getD k []).map (cnt rows ends n)).sum
def F_counts : DF := fun ds R => ∃ (rows : List (List Nat)) (ends : List Nat) (n : Nat), ds = [dRd rows ends, .int (n : Int)] ∧ rows.length ≤ 2 ^ 20 ∧ n ≤ 1000000 ∧ (∀ row ∈ rows, row.length ≤ 3 ∧ ∀ r ∈ row, r < rows.length) ∧
  R (.lst ((List.range rows.length).map fun k => dI (cnt rows ends n k)))
def M_counts : Nat → Bool := fun i => ([2] : List Nat).contains i
/- 0 reader, 1 many, 2 found, 3 _, 4 k, 5 row, 6 after -/
def sem_counts : DS := (dSeq (dSetO 2 (dLc (dRng1 (dCons (dCB fLen (dCons (dOp fSub (dVar 0) (dC (.int 0))) dNil)) dNil)) (dgName 4) dYes (dIf (dTest (dOp fIn (dVar 4) (dOp fSub (dVar 0) (dC (.int 1))))) (dC (.int 1)) (dC (.int 0))) [4]))
  (dSeq (dFor (dRng1 (dCons (dVar 1) dNil)) (dgName 3) (dSetO 2 (dLc (dIt (dOp fSub (dVar 0) (dC (.int 0)))) (dgName 5) dYes (dCB fSum (dCons (dLc (dIt (dVar 5)) (dgName 6) dYes (dImm (dOp fSub (dVar 2) (dVar 6))) [6]) dNil)) [5])))
  (dRetO 2)))
theorem len_counts : ∀ ds R, F_counts ds R → ds.length = 2 := by
  rintro ds R ⟨_, _, _, rfl, _⟩
  rfl
theorem own_counts : ∀ ds R, F_counts ds R → ∀ i, i < ds.length → M_counts i = false := by
  rintro ds R ⟨_, _, _, rfl, _⟩ i hi
  have : i < 2 := hi
  match i, this with
  | 0, _ => rfl
  | 1, _ => rfl
theorem imm_nats (f : Nat → Nat) (l : List Nat) : immL (l.map fun k => dI (f k)) = true := immL_map fun _ _ => rfl
theorem rd0 {rows : List (List Nat)} {ends : List Nat} {R : D → Prop} : fSub (dRd rows ends) (.int 0) R ↔ R (.tup (rows.map dT)) := by simp [dRd, fSub]
theorem rd1 {rows : List (List Nat)} {ends : List Nat} {R : D → Prop} : fSub (dRd rows ends) (.int 1) R ↔ R (.tup (ends.map dI)) := by simp [dRd, fSub]
theorem intsOf_nats {α : Type} (f : α → Nat) : ∀ l : List α, intsOf (l.map fun x => dI (f x)) = some (l.map fun x => (f x : Int))
  | [] => rfl
  | x :: l => by
    have h := intsOf_nats f l
    simp only [List.map_cons, intsOf, h]
theorem sum_cast {α : Type} (f : α → Nat) : ∀ l : List α, (l.map fun x => (f x : Int)).sum = (((l.map f).sum : Nat) : Int)
  | [] => rfl
  | x :: l => by
    rw [List.map_cons, List.sum_cons, List.map_cons, List.sum_cons, sum_cast f l]
    omega
theorem at_cnt {f : Nat → Nat} {N k : Nat} (h : k < N) : atI ((List.range N).map fun k => dI (f k)) (k : Int) = some (dI (f k)) := by
  rw [atI_nat, List.getElem?_map, List.getElem?_range h]
  rfl
theorem row_map (rows : List (List Nat)) (g : List Nat → Nat) : rows.map (fun row => dI (g row)) = (List.range rows.length).map fun k => dI (g (rows.getD k [])) := by
  apply List.ext_getElem
  · simp
  · intro i h1 h2
    simp only [List.getElem_map, List.getElem_range]
    have : i < rows.length := by simpa using h1
    rw [List.getD_eq_getElem?_getD, List.getElem?_eq_getElem this]
    rfl
theorem pure_counts : ∀ ds R, F_counts ds R → sem_counts { nx := fun _ => R .non, rt := R } (startD 7 ds) := by
  rintro ds R ⟨rows, ends, n, rfl, hl, hn, hr, r⟩
  show sem_counts _ [some _, some _, none, none, none, none, none]
  simp only [sem_counts, x_var, x_c, x_imm, x_op, x_un, x_cb, x_call, x_nil, x_cons, x_tup, x_lst, x_noPart, x_part, x_sl, x_test, x_and, x_or, x_not, x_yes, x_andV, x_orV, x_notV, x_if, x_it, x_gname, x_seq, x_skip, x_brk, x_cont, x_ret, x_retN, x_drop, x_ifS, x_set, x_setO, x_asg, x_sortSet, x_for, x_get, x_din, x_dnotin, List.set_cons_zero, List.set_cons_succ, List.getElem?_cons_zero, List.getElem?_cons_succ, List.length_cons, List.length_nil, Option.some.injEq, exists_eq_left', D.bl.injEq, D.int.injEq, rd0, fLen, dRng1, List.length_map, rngD_nat, dLcZ, wipeD]
  refine ⟨by omega, by rw [List.length_range, sizeLine_eq]; omega, by simp, ?_⟩
  refine lcD_m dI (fun k => dI (cnt rows ends 0 k)) (List.range rows.length) (fun k hk Q q => ?_) ?_
  · have e4 : mem (.int (k : Int)) (ends.map dI) = decide (k ∈ ends) := mem_ints k ends
    simp only [x_var, x_c, x_imm, x_op, x_un, x_cb, x_call, x_nil, x_cons, x_tup, x_lst, x_noPart, x_part, x_sl, x_test, x_and, x_or, x_not, x_yes, x_andV, x_orV, x_notV, x_if, x_it, x_gname, x_seq, x_skip, x_brk, x_cont, x_ret, x_retN, x_drop, x_ifS, x_set, x_setO, x_asg, x_sortSet, x_for, x_get, x_din, x_dnotin, List.set_cons_zero, List.set_cons_succ, List.getElem?_cons_zero, List.getElem?_cons_succ, List.length_cons, List.length_nil, Option.some.injEq, exists_eq_left', D.bl.injEq, D.int.injEq, rd1, fIn, fInB, fl_ints, fl, e4, true_and, decide_eq_true_eq]
    have q : Q (dI (cnt rows ends 0 k)) := q
    by_cases h : k ∈ ends
    · rw [if_pos h]
      simpa [cnt, h, dI] using q
    · rw [if_neg h]
      simpa [cnt, h, dI] using q
  · refine ⟨imm_nats _ _, by decide, by omega, ?_⟩
    refine forL_inv dI (fun rest δ => ∃ (j : Nat) (a : Option D), rest = List.range' j (n - j) ∧ j ≤ n ∧ δ = [some (dRd rows ends), some (.int (n : Int)), some (.lst ((List.range rows.length).map fun k => dI (cnt rows ends j k))), a, none, none, none]) (List.range n) _ ⟨0, none, by rw [List.range_eq_range', Nat.sub_zero], Nat.zero_le _, rfl⟩ ?_ ?_
    · rintro δ ⟨j, a, h1, h2, rfl⟩
      have hj : j = n := by
        have := congrArg List.length h1
        simp at this
        omega
      subst hj
      exact r
    · rintro k xs δ ⟨j, a, h1, h2, rfl⟩ KK hK
      have hpos : n - j ≠ 0 := by
        intro z
        rw [z] at h1
        cases h1
      obtain ⟨z, hz⟩ := Nat.exists_eq_succ_of_ne_zero hpos
      rw [hz, Nat.succ_eq_add_one, List.range'_succ] at h1
      simp only [List.cons.injEq] at h1
      obtain ⟨rfl, rfl⟩ := h1
      simp only [x_var, x_c, x_imm, x_op, x_un, x_cb, x_call, x_nil, x_cons, x_tup, x_lst, x_noPart, x_part, x_sl, x_test, x_and, x_or, x_not, x_yes, x_andV, x_orV, x_notV, x_if, x_it, x_gname, x_seq, x_skip, x_brk, x_cont, x_ret, x_retN, x_drop, x_ifS, x_set, x_setO, x_asg, x_sortSet, x_for, x_get, x_din, x_dnotin, List.set_cons_zero, List.set_cons_succ, List.getElem?_cons_zero, List.getElem?_cons_succ, List.length_cons, List.length_nil, Option.some.injEq, exists_eq_left', D.bl.injEq, D.int.injEq, rd0, fItems, dLcZ, wipeD, List.length_map]
      refine ⟨by rw [sizeLine_eq]; omega, by simp, ?_⟩
      refine lcD_m dT (fun row => dI ((row.map (cnt rows ends k)).sum)) rows (fun row hrow Q q => ?_) ?_
      · simp only [x_var, x_c, x_imm, x_op, x_un, x_cb, x_call, x_nil, x_cons, x_tup, x_lst, x_noPart, x_part, x_sl, x_test, x_and, x_or, x_not, x_yes, x_andV, x_orV, x_notV, x_if, x_it, x_gname, x_seq, x_skip, x_brk, x_cont, x_ret, x_retN, x_drop, x_ifS, x_set, x_setO, x_asg, x_sortSet, x_for, x_get, x_din, x_dnotin, List.set_cons_zero, List.set_cons_succ, List.getElem?_cons_zero, List.getElem?_cons_succ, List.length_cons, List.length_nil, Option.some.injEq, exists_eq_left', D.bl.injEq, D.int.injEq, dLcZ, wipeD]
        simp only [dT, fItems, List.length_map]
        obtain ⟨h5, h6⟩ := hr row hrow
        refine ⟨by rw [sizeLine_eq]; omega, by simp, ?_⟩
        refine lcD_m dI (fun x => dI (cnt rows ends k x)) row (fun x hx Q' q' => ?_) ?_
        · simp only [x_var, x_c, x_imm, x_op, x_un, x_cb, x_call, x_nil, x_cons, x_tup, x_lst, x_noPart, x_part, x_sl, x_test, x_and, x_or, x_not, x_yes, x_andV, x_orV, x_notV, x_if, x_it, x_gname, x_seq, x_skip, x_brk, x_cont, x_ret, x_retN, x_drop, x_ifS, x_set, x_setO, x_asg, x_sortSet, x_for, x_get, x_din, x_dnotin, List.set_cons_zero, List.set_cons_succ, List.getElem?_cons_zero, List.getElem?_cons_succ, List.length_cons, List.length_nil, Option.some.injEq, exists_eq_left', D.bl.injEq, D.int.injEq, fSub, at_cnt (f := cnt rows ends k) (h6 x hx), imm, true_and]
          exact q'
        · simp only [fSum, intsOf_nats, sum_cast]
          exact q
      · rw [row_map rows fun row => (row.map (cnt rows ends k)).sum]
        refine ⟨imm_nats _ _, by decide, ?_⟩
        refine hK _ ⟨k + 1, some (.int (k : Int)), by rw [show n - (k + 1) = z by omega], by omega, rfl⟩
def F_count : DF := fun ds R => ∃ (rows : List (List Nat)) (ends : List Nat) (n : Nat), ds = [dRd rows ends, .int (n : Int)] ∧ 0 < rows.length ∧ rows.length ≤ 2 ^ 20 ∧ n ≤ 1000000 ∧ (∀ row ∈ rows, row.length ≤ 3 ∧ ∀ r ∈ row, r < rows.length) ∧ R (dI (cnt rows ends n 0))
def M_count : Nat → Bool := fun i => ([] : List Nat).contains i
/- 0 reader, 1 many -/
def sem_count : DS := (dRet (dOp fSub (dCall F_counts (dCons (dVar 0) (dCons (dVar 1) dNil))) (dC (.int 0))))
theorem len_count : ∀ ds R, F_count ds R → ds.length = 2 := by
  rintro ds R ⟨_, _, _, rfl, _⟩
  rfl
theorem own_count : ∀ ds R, F_count ds R → ∀ i, i < ds.length → M_count i = false := fun _ _ _ _ _ => rfl
theorem pure_count : ∀ ds R, F_count ds R → sem_count { nx := fun _ => R .non, rt := R } (startD 2 ds) := by
  rintro ds R ⟨rows, ends, n, rfl, h0, hl, hn, hr, r⟩
  show sem_count _ [some _, some _]
  simp only [sem_count, x_var, x_c, x_imm, x_op, x_un, x_cb, x_call, x_nil, x_cons, x_tup, x_lst, x_noPart, x_part, x_sl, x_test, x_and, x_or, x_not, x_yes, x_andV, x_orV, x_notV, x_if, x_it, x_gname, x_seq, x_skip, x_brk, x_cont, x_ret, x_retN, x_drop, x_ifS, x_set, x_setO, x_asg, x_sortSet, x_for, x_get, x_din, x_dnotin, List.set_cons_zero, List.set_cons_succ, List.getElem?_cons_zero, List.getElem?_cons_succ, List.length_cons, List.length_nil, Option.some.injEq, exists_eq_left', D.bl.injEq, D.int.injEq]
  refine ⟨rows, ends, n, rfl, hl, hn, hr, ?_⟩
  have := at_cnt (f := cnt rows ends n) h0
  simp only [fSub]
  exact ⟨_, this, r⟩
end PD
set_option Elab.async false
set_option linter.all false
set_option maxRecDepth 100000
set_option maxHeartbeats 2000000
namespace PD
open PySem PySem.Spec PyProof.Rows L2
/-! ### spelled -/
def spl (ws : List Wd) (row : List Nat) : Wd := (row.map fun k => ws.getD k []).flatten
theorem spl_nil (ws : List Wd) : spl ws [] = [] := rfl
theorem spl_cons (ws : List Wd) (k : Nat) (row : List Nat) : spl ws (k :: row) = ws.getD k [] ++ spl ws row := by simp [spl]
theorem spl_app (ws : List Wd) (a b : List Nat) : spl ws (a ++ b) = spl ws a ++ spl ws b := by simp [spl]
def F_spelled : DF := fun ds R => ∃ (ws : List Wd) (row : List Nat), ds = [.tup (ws.map dW), .tup (row.map dI)] ∧ (∀ k ∈ row, k < ws.length) ∧ row.length ≤ 1000000 ∧ (spl ws row).length ≤ 1000000 ∧ R (dW (spl ws row))
def M_spelled : Nat → Bool := fun i => ([] : List Nat).contains i
/- 0 words, 1 row, 2 k -/
def sem_spelled : DS := (dRet (dM1 fJoin (dC (.str [])) (dLc (dIt (dVar 1)) (dgName 2) dYes (dImm (dOp fSub (dVar 0) (dVar 2))) [2])))
theorem len_spelled : ∀ ds R, F_spelled ds R → ds.length = 2 := by
  rintro ds R ⟨_, _, rfl, _⟩
  rfl
theorem own_spelled : ∀ ds R, F_spelled ds R → ∀ i, i < ds.length → M_spelled i = false := fun _ _ _ _ _ => rfl
theorem atW {ws : List Wd} {k : Nat} (h : k < ws.length) : atI (ws.map dW) (k : Int) = some (dW (ws.getD k [])) := by
  rw [atI_nat, List.getElem?_map, List.getElem?_eq_getElem h, List.getD_eq_getElem?_getD, List.getElem?_eq_getElem h]
  rfl
theorem strsOf_map {α : Type} (f : α → Wd) : ∀ l : List α, strsOf (l.map fun x => dW (f x)) = some (l.map f)
  | [] => rfl
  | x :: l => by
    have h := strsOf_map f l
    simp only [List.map_cons, strsOf, h]
theorem pure_spelled : ∀ ds R, F_spelled ds R → sem_spelled { nx := fun _ => R .non, rt := R } (startD 3 ds) := by
  rintro ds R ⟨ws, row, rfl, hr, h1, h2, r⟩
  show sem_spelled _ [some _, some _, none]
  simp only [sem_spelled, dM1, x_var, x_c, x_imm, x_op, x_un, x_cb, x_call, x_nil, x_cons, x_tup, x_lst, x_noPart, x_part, x_sl, x_test, x_and, x_or, x_not, x_yes, x_andV, x_orV, x_notV, x_if, x_it, x_gname, x_seq, x_skip, x_brk, x_cont, x_ret, x_retN, x_drop, x_ifS, x_set, x_setO, x_asg, x_sortSet, x_for, x_get, x_din, x_dnotin, List.set_cons_zero, List.set_cons_succ, List.getElem?_cons_zero, List.getElem?_cons_succ, List.length_cons, List.length_nil, Option.some.injEq, exists_eq_left', D.bl.injEq, D.int.injEq, fItems, dLcZ, wipeD, List.length_map, true_and]
  refine ⟨by rw [sizeLine_eq]; omega, by simp, ?_⟩
  refine lcD_m dI (fun k => dW (ws.getD k [])) row (fun k hk Q q => ?_) ?_
  · simp only [x_var, x_c, x_imm, x_op, x_un, x_cb, x_call, x_nil, x_cons, x_tup, x_lst, x_noPart, x_part, x_sl, x_test, x_and, x_or, x_not, x_yes, x_andV, x_orV, x_notV, x_if, x_it, x_gname, x_seq, x_skip, x_brk, x_cont, x_ret, x_retN, x_drop, x_ifS, x_set, x_setO, x_asg, x_sortSet, x_for, x_get, x_din, x_dnotin, List.set_cons_zero, List.set_cons_succ, List.getElem?_cons_zero, List.getElem?_cons_succ, List.length_cons, List.length_nil, Option.some.injEq, exists_eq_left', D.bl.injEq, D.int.injEq, fSub, atW (hr k hk), imm, true_and]
    exact q
  · simp only [fJoin, strsOf_map]
    refine ⟨?_, r⟩
    have : ((row.map fun k => ws.getD k []).map (·.length)).sum = (spl ws row).length := by
      unfold spl
      rw [List.length_flatten]
    rw [this, sizeLine_eq]
    omega
/-! ### rests_of -/
abbrev Ent := Wd × List Nat × List Nat
abbrev kW (r : Wd) : Key := .inr ⟨r.toArray⟩
theorem kW_inj {a b : Wd} (h : kW a = kW b) : a = b := by
  injection h with h
  have := congrArg (fun x : Str => x.cps.toList) h
  simpa using this
def dRows (s l : List Nat) : D := .tup [dT s, dT l]
theorem imm_dRows (s l : List Nat) : imm (dRows s l) = true := by
  simp only [dRows, imm, immL, imm_dT]
  rfl
def encW (W : List Ent) : List (Key × D) := W.map fun e => (kW e.1, dRows e.2.1 e.2.2)
def lookW (W : List Ent) (r : Wd) : Option (List Nat × List Nat) := (W.find? fun e => decide (e.1 = r)).map (·.2)
theorem valD_enc (r : Wd) : ∀ W : List Ent, valD (encW W) (kW r) = (lookW W r).map fun p => dRows p.1 p.2
  | [] => rfl
  | e :: W => by
    have ih := valD_enc r W
    unfold valD lookW encW at *
    rw [List.map_cons, List.find?_cons, List.find?_cons]
    by_cases h : e.1 = r
    · simp [h]
    · have h2 : ¬ kW e.1 = kW r := fun z => h (kW_inj z)
      simp only [h, h2, decide_false]
      exact ih
theorem lookW_some {W : List Ent} {r : Wd} {p : List Nat × List Nat} (h : lookW W r = some p) : (r, p) ∈ W := by
  unfold lookW at h
  cases hf : W.find? fun e => decide (e.1 = r) with
  | none => rw [hf] at h; cases h
  | some e =>
    rw [hf] at h
    cases h
    have h1 := List.find?_some hf
    have h2 := List.mem_of_find?_eq_some hf
    have h1 : e.1 = r := by simpa using h1
    rw [← h1]
    exact h2
theorem lookW_none {W : List Ent} {r : Wd} (h : lookW W r = none) : r ∉ W.map (·.1) := fun m => by
  obtain ⟨e, he, rfl⟩ := List.mem_map.mp m
  unfold lookW at h
  rw [Option.map_eq_none_iff, List.find?_eq_none] at h
  exact h e he (by simp)
theorem putD_new {W : List Ent} {r : Wd} (h : lookW W r = none) (s l : List Nat) : putD (encW W) (kW r) (dRows s l) = encW (W ++ [(r, s, l)]) := by
  unfold putD
  rw [if_neg]
  · simp [encW]
  · intro z
    rw [List.any_eq_true] at z
    obtain ⟨x, hx, e⟩ := z
    obtain ⟨e0, he0, rfl⟩ := List.mem_map.mp hx
    have e : kW e0.1 = kW r := by simpa using e
    exact lookW_none h (List.mem_map.mpr ⟨e0, he0, kW_inj e⟩)
theorem immK_enc (W : List Ent) : immK (encW W) = true := by
  induction W with
  | nil => rfl
  | cons e W ih =>
    unfold encW at *
    rw [List.map_cons]
    simp only [immK, imm_dRows, ih]
    rfl
structure RestsOk (ws : List Wd) (W : List Ent) : Prop where
  nd : (W.map (·.1)).Nodup
  ent : ∀ e ∈ W, ∃ i j, e.2.1 = [i] ∧ e.2.2 = [j] ∧ i < ws.length ∧ j < ws.length ∧ i ≠ j ∧ ws.getD i [] ≠ ws.getD j [] ∧ ws.getD j [] = ws.getD i [] ++ e.1
  all : ∀ i j, i < ws.length → j < ws.length → ws.getD i [] ≠ ws.getD j [] → ∀ r, ws.getD j [] = ws.getD i [] ++ r → r ∈ W.map (·.1)
def F_rests_of : DF := fun ds R => ∃ ws : List Wd, ds = [.tup (ws.map dW)] ∧ ws.length ≤ 100 ∧ (∀ w ∈ ws, w.length ≤ 1000) ∧ ∀ W, RestsOk ws W → R (.dK (encW W))
def M_rests_of : Nat → Bool := fun i => ([1] : List Nat).contains i
/- 0 words, 1 ways, 2 i, 3 j -/
def sem_rests_of : DS := (dSeq (dSetO 1 (dC (.dK [])))
  (dSeq (dFor (dRng1 (dCons (dCB fLen (dCons (dVar 0) dNil)) dNil)) (dgName 2) (dFor (dRng1 (dCons (dCB fLen (dCons (dVar 0) dNil)) dNil)) (dgName 3) (dIfS (dAnd (dTest (dOp fNe (dVar 2) (dVar 3))) (dAnd (dTest (dOp fNe (dOp fSub (dVar 0) (dVar 2)) (dOp fSub (dVar 0) (dVar 3)))) (dTest (dM1 fStartswith (dOp fSub (dVar 0) (dVar 3)) (dOp fSub (dVar 0) (dVar 2)))))) (dSetd 1 (dSl (dOp fSub (dVar 0) (dVar 3)) (dPart (dCB fLen (dCons (dOp fSub (dVar 0) (dVar 2)) dNil))) dNoPart) (dTup (dCons (dTup (dCons (dImm (dVar 2)) dNil)) (dCons (dTup (dCons (dImm (dVar 3)) dNil)) dNil)))) dSkip)))
  (dRetO 1)))
theorem len_rests_of : ∀ ds R, F_rests_of ds R → ds.length = 1 := by
  rintro ds R ⟨_, rfl, _⟩
  rfl
theorem own_rests_of : ∀ ds R, F_rests_of ds R → ∀ i, i < ds.length → M_rests_of i = false := by
  rintro ds R ⟨_, rfl, _⟩ i hi
  have : i = 0 := by simpa using hi
  subst this
  rfl
theorem range_step {n j k : Nat} {xs : List Nat} (h : k :: xs = List.range' j (n - j)) : k = j ∧ xs = List.range' (j + 1) (n - (j + 1)) ∧ j < n := by
  have hpos : n - j ≠ 0 := by
    intro z
    rw [z] at h
    cases h
  obtain ⟨z, hz⟩ := Nat.exists_eq_succ_of_ne_zero hpos
  rw [hz, Nat.succ_eq_add_one, List.range'_succ] at h
  simp only [List.cons.injEq] at h
  exact ⟨h.1, by rw [h.2, show n - (j + 1) = z by omega], by omega⟩
theorem range_end {n j : Nat} (h : [] = List.range' j (n - j)) (hj : j ≤ n) : j = n := by
  have := congrArg List.length h
  simp at this
  omega
theorem pref_app {a b : Wd} (h : a <+: b) : b = a ++ b.drop a.length := by
  obtain ⟨t, rfl⟩ := h
  simp
theorem cutL_drop {w : Wd} {k : Nat} (h : k ≤ w.length) : cutL w (some (k : Int)) none = w.drop k := by
  unfold cutL
  rw [HT.sIx_nat, HT.sIx_none]
  have : min k w.length = k := by omega
  rw [this, List.take_of_length_le (by simp)]
theorem eqb_str' (a b : Wd) : eqb (dW a) (dW b) = decide (a = b) := eqb_str a b
theorem pure_rests_of : ∀ ds R, F_rests_of ds R → sem_rests_of { nx := fun _ => R .non, rt := R } (startD 4 ds) := by
  rintro ds R ⟨ws, rfl, hn, hw, r⟩
  show sem_rests_of _ [some _, none, none, none]
  have hw' : ∀ k, k < ws.length → (ws.getD k []).length ≤ 1000 := fun k hk => by
    rw [List.getD_eq_getElem?_getD, List.getElem?_eq_getElem hk]
    exact hw _ (List.getElem_mem hk)
  simp only [sem_rests_of, x_var, x_c, x_imm, x_op, x_un, x_cb, x_call, x_nil, x_cons, x_tup, x_lst, x_noPart, x_part, x_sl, x_test, x_and, x_or, x_not, x_yes, x_andV, x_orV, x_notV, x_if, x_it, x_gname, x_seq, x_skip, x_brk, x_cont, x_ret, x_retN, x_drop, x_ifS, x_set, x_setO, x_asg, x_sortSet, x_for, x_get, x_din, x_dnotin, List.set_cons_zero, List.set_cons_succ, List.getElem?_cons_zero, List.getElem?_cons_succ, List.length_cons, List.length_nil, Option.some.injEq, exists_eq_left', D.bl.injEq, D.int.injEq, flatD, immK, fLen, dRng1, List.length_map, rngD_nat]
  refine ⟨trivial, by decide, by omega, ?_⟩
  let E : List Ent → Nat → Nat → Prop := fun W a b => (W.map (·.1)).Nodup ∧ W.length ≤ a * 100 + b ∧
    (∀ e ∈ W, ∃ i j, e.2.1 = [i] ∧ e.2.2 = [j] ∧ i < ws.length ∧ j < ws.length ∧ i ≠ j ∧ ws.getD i [] ≠ ws.getD j [] ∧ ws.getD j [] = ws.getD i [] ++ e.1) ∧
    ∀ i j, (i < a ∨ (i = a ∧ j < b)) → j < ws.length → ws.getD i [] ≠ ws.getD j [] → ∀ r, ws.getD j [] = ws.getD i [] ++ r → r ∈ W.map (·.1)
  refine forL_inv dI (fun rest δ => ∃ (i : Nat) (W : List Ent) (a b : Option D), rest = List.range' i (ws.length - i) ∧ i ≤ ws.length ∧ δ = [some (.tup (ws.map dW)), some (.dK (encW W)), a, b] ∧ E W i 0) (List.range ws.length) _ ⟨0, [], none, none, by rw [List.range_eq_range', Nat.sub_zero], Nat.zero_le _, rfl, List.nodup_nil, by simp, (fun e he => nomatch he), fun i j h => by omega⟩ ?_ ?_
  · rintro δ ⟨i, W, a, b, h1, h2, rfl, e1, e2, e3, e4⟩
    have := range_end h1 h2
    subst this
    exact r W ⟨e1, e3, fun i j hi hj => e4 i j (.inl hi) hj⟩
  · rintro i xs δ ⟨i', W, a, b, h1, h2, rfl, hE⟩ KK hK
    obtain ⟨rfl, h3, h4⟩ := range_step h1
    simp only [x_var, x_c, x_imm, x_op, x_un, x_cb, x_call, x_nil, x_cons, x_tup, x_lst, x_noPart, x_part, x_sl, x_test, x_and, x_or, x_not, x_yes, x_andV, x_orV, x_notV, x_if, x_it, x_gname, x_seq, x_skip, x_brk, x_cont, x_ret, x_retN, x_drop, x_ifS, x_set, x_setO, x_asg, x_sortSet, x_for, x_get, x_din, x_dnotin, List.set_cons_zero, List.set_cons_succ, List.getElem?_cons_zero, List.getElem?_cons_succ, List.length_cons, List.length_nil, Option.some.injEq, exists_eq_left', D.bl.injEq, D.int.injEq, fLen, dRng1, List.length_map, rngD_nat]
    refine ⟨by omega, ?_⟩
    refine forL_inv dI (fun rest δ => ∃ (j : Nat) (W : List Ent) (b : Option D), rest = List.range' j (ws.length - j) ∧ j ≤ ws.length ∧ δ = [some (.tup (ws.map dW)), some (.dK (encW W)), some (dI i), b] ∧ E W i j) (List.range ws.length) _ ⟨0, W, b, by rw [List.range_eq_range', Nat.sub_zero], Nat.zero_le _, rfl, hE⟩ ?_ ?_
    · rintro δ ⟨j, W, b, g1, g2, rfl, e1, e2, e3, e4⟩
      have := range_end g1 g2
      subst this
      refine hK _ ⟨i + 1, W, some (dI i), b, h3, by omega, rfl, e1, by omega, e3, fun i' j' hij hj => ?_⟩
      exact e4 i' j' (by omega) hj
    · rintro j ys δ ⟨j', W, b, g1, g2, rfl, e1, e2, e3, e4⟩ K2 hK2
      obtain ⟨rfl, g3, g4⟩ := range_step g1
      have keep : ∀ {b : Option D}, (ws.getD i [] ≠ ws.getD j [] → ∀ r, ws.getD j [] = ws.getD i [] ++ r → r ∈ W.map (·.1)) → K2 [some (.tup (ws.map dW)), some (.dK (encW W)), some (dI i), b] := fun {b} hc => by
        refine hK2 _ ⟨j + 1, W, b, g3, by omega, rfl, e1, by omega, e3, fun i' j' hij hj => ?_⟩
        by_cases hh : i' = i ∧ j' = j
        · obtain ⟨rfl, rfl⟩ := hh
          exact hc
        · exact e4 i' j' (by omega) hj
      have q1 : sc (dI i) (dI j) = true := rfl
      have q2 : eqb (dI i) (dI j) = decide (i = j) := eqb_nat i j
      have q3 : sc (dW (ws.getD i [])) (dW (ws.getD j [])) = true := rfl
      have q4 : eqb (dW (ws.getD i [])) (dW (ws.getD j [])) = decide (ws.getD i [] = ws.getD j []) := eqb_str _ _
      have a1 : atI (ws.map dW) (i : Int) = some (dW (ws.getD i [])) := atW h4
      have a2 : atI (ws.map dW) (j : Int) = some (dW (ws.getD j [])) := atW g4
      simp only [x_var, x_c, x_imm, x_op, x_un, x_cb, x_call, x_nil, x_cons, x_tup, x_lst, x_noPart, x_part, x_sl, x_test, x_and, x_or, x_not, x_yes, x_andV, x_orV, x_notV, x_if, x_it, x_gname, x_seq, x_skip, x_brk, x_cont, x_ret, x_retN, x_drop, x_ifS, x_set, x_setO, x_asg, x_sortSet, x_for, x_get, x_din, x_dnotin, List.set_cons_zero, List.set_cons_succ, List.getElem?_cons_zero, List.getElem?_cons_succ, List.length_cons, List.length_nil, Option.some.injEq, exists_eq_left', D.bl.injEq, D.int.injEq, fNe, q1, q2, fSub, a1, a2, q3, q4, Bool.true_or, true_and, dM1, fStartswith, decide_eq_true_eq]
      by_cases c1 : i = j
      · simp only [c1, decide_true, Bool.not_true]
        subst c1
        exact keep fun ne => absurd rfl ne
      · simp only [c1, decide_false, Bool.not_false, if_true]
        by_cases c2 : ws.getD i [] = ws.getD j []
        · simp only [c2, decide_true, Bool.not_true]
          exact keep fun ne => absurd c2 ne
        · simp only [c2, decide_false, Bool.not_false, if_true]
          by_cases c3 : ws.getD i [] <+: ws.getD j []
          · rw [if_pos c3]
            have hp := pref_app c3
            have hle : (ws.getD i []).length ≤ (ws.getD j []).length := by rw [hp]; simp
            have l1 := hw' i h4
            have l2 := hw' j g4
            have c5 : cutL (ws.getD j []) (some ((ws.getD i []).length : Int)) none = (ws.getD j []).drop (ws.getD i []).length := cutL_drop hle
            unfold dSetd
            simp only [x_var, x_c, x_imm, x_op, x_un, x_cb, x_call, x_nil, x_cons, x_tup, x_lst, x_noPart, x_part, x_sl, x_test, x_and, x_or, x_not, x_yes, x_andV, x_orV, x_notV, x_if, x_it, x_gname, x_seq, x_skip, x_brk, x_cont, x_ret, x_retN, x_drop, x_ifS, x_set, x_setO, x_asg, x_sortSet, x_for, x_get, x_din, x_dnotin, List.set_cons_zero, List.set_cons_succ, List.getElem?_cons_zero, List.getElem?_cons_succ, List.length_cons, List.length_nil, Option.some.injEq, exists_eq_left', D.bl.injEq, D.int.injEq, fSub, a1, a2, fSl, fLen, c5, imm, immL, immK_enc, keyD, sizeLine_eq, Bool.and_true, Bool.true_and, true_and]
            have hlen : (encW W).length = W.length := by simp [encW]
            refine ⟨by omega, by omega, by decide, by decide, by decide, by rw [hlen]; omega, ?_⟩
            have hv := valD_enc ((ws.getD j []).drop (ws.getD i []).length) W
            cases hl : lookW W ((ws.getD j []).drop (ws.getD i []).length) with
            | some p =>
              rw [hl] at hv
              simp only [Option.map_some] at hv
              simp only [hv]
              refine keep fun ne rr hr => ?_
              have : rr = (ws.getD j []).drop (ws.getD i []).length := by rw [hr]; simp
              rw [this]
              exact List.mem_map.mpr ⟨_, lookW_some hl, rfl⟩
            | none =>
              rw [hl] at hv
              simp only [Option.map_none] at hv
              simp only [hv]
              have hput := putD_new hl [i] [j]
              have hput2 : putD (encW W) (kW ((ws.getD j []).drop (ws.getD i []).length)) (D.tup [D.tup [dI i], D.tup [dI j]]) = encW (W ++ [((ws.getD j []).drop (ws.getD i []).length, [i], [j])]) := hput
              simp only [hput2]
              refine hK2 _ ⟨j + 1, W ++ [((ws.getD j []).drop (ws.getD i []).length, [i], [j])], some (dI j), g3, by omega, rfl, ?_, ?_, ?_, ?_⟩
              · rw [List.map_append]
                refine List.nodup_append.mpr ⟨e1, by simp, fun x hx y hy e => ?_⟩
                simp only [List.map_cons, List.map_nil, List.mem_singleton] at hy
                rw [hy] at e
                exact lookW_none hl (e ▸ hx)
              · simp only [List.length_append, List.length_cons, List.length_nil]
                omega
              · intro e he
                rcases List.mem_append.mp he with he | he
                · exact e3 e he
                · rw [List.mem_singleton.mp he]
                  exact ⟨i, j, rfl, rfl, h4, g4, c1, c2, hp⟩
              · intro i' j' hij hj ne rr hr
                rw [List.map_append]
                by_cases hh : i' = i ∧ j' = j
                · obtain ⟨rfl, rfl⟩ := hh
                  have : rr = (ws.getD j' []).drop (ws.getD i' []).length := by rw [hr]; simp
                  rw [this]
                  simp
                · exact List.mem_append_left _ (e4 i' j' (by omega) hj ne rr hr)
          · rw [if_neg c3]
            exact keep fun ne rr hr => absurd ⟨rr, hr.symm⟩ c3
end PD
set_option Elab.async false
set_option linter.all false
set_option maxRecDepth 100000
set_option maxHeartbeats 2000000
namespace PD
open PySem PySem.Spec PyProof.Rows L2
/-! ### grown -/
def grow1 (ws : List Wd) (rest : Wd) (s l : List Nat) (k : Nat) : List Ent :=
  if ws.getD k [] <+: rest then [(rest.drop (ws.getD k []).length, s ++ [k], l)]
  else if rest <+: ws.getD k [] then [((ws.getD k []).drop rest.length, l, s ++ [k])] else []
def grownL (ws : List Wd) (rest : Wd) (s l : List Nat) : List Ent := (List.range ws.length).flatMap (grow1 ws rest s l)
def dG (e : Ent) : D := .tup [dW e.1, dRows e.2.1 e.2.2]
theorem imm_dG (e : Ent) : imm (dG e) = true := by
  simp only [dG, imm, immL, imm_dRows]
  rfl
def F_grown : DF := fun ds R => ∃ (ws : List Wd) (W : List Ent) (rest : Wd) (s l : List Nat), ds = [.tup (ws.map dW), .dK (encW W), .str rest] ∧ lookW W rest = some (s, l) ∧ ws.length ≤ 100 ∧ (∀ w ∈ ws, w.length ≤ 1000) ∧ rest.length ≤ 1000 ∧ s.length ≤ 1000 ∧ l.length ≤ 1000 ∧ R (.lst ((grownL ws rest s l).map dG))
def M_grown : Nat → Bool := fun i => ([5] : List Nat).contains i
/- 0 words, 1 ways, 2 rest, 3 short, 4 long, 5 found, 6 k -/
def sem_grown : DS := (dSeq (dAsg (dgTup 2 (dgCons (dgName 3) (dgCons (dgName 4) dgNil))) (dImm (dGet (dVar 1) (dVar 2))))
  (dSeq (dSetO 5 (dLst dNil))
  (dSeq (dFor (dRng1 (dCons (dCB fLen (dCons (dVar 0) dNil)) dNil)) (dgName 6) (dIfS (dTest (dM1 fStartswith (dVar 2) (dOp fSub (dVar 0) (dVar 6)))) (dAppend 5 (dTup (dCons (dImm (dSl (dVar 2) (dPart (dCB fLen (dCons (dOp fSub (dVar 0) (dVar 6)) dNil))) dNoPart)) (dCons (dTup (dCons (dOp fAdd (dVar 3) (dTup (dCons (dImm (dVar 6)) dNil))) (dCons (dImm (dVar 4)) dNil))) dNil)))) (dIfS (dTest (dM1 fStartswith (dOp fSub (dVar 0) (dVar 6)) (dVar 2))) (dAppend 5 (dTup (dCons (dImm (dSl (dOp fSub (dVar 0) (dVar 6)) (dPart (dCB fLen (dCons (dVar 2) dNil))) dNoPart)) (dCons (dTup (dCons (dImm (dVar 4)) (dCons (dOp fAdd (dVar 3) (dTup (dCons (dImm (dVar 6)) dNil))) dNil))) dNil)))) dSkip)))
  (dRetO 5))))
theorem len_grown : ∀ ds R, F_grown ds R → ds.length = 3 := by
  rintro ds R ⟨_, _, _, _, _, rfl, _⟩
  rfl
theorem own_grown : ∀ ds R, F_grown ds R → ∀ i, i < ds.length → M_grown i = false := by
  rintro ds R ⟨_, _, _, _, _, rfl, _⟩ i hi
  have : i < 3 := hi
  match i, this with
  | 0, _ => rfl
  | 1, _ => rfl
  | 2, _ => rfl
theorem grow1_len (ws : List Wd) (rest : Wd) (s l : List Nat) (k : Nat) : (grow1 ws rest s l k).length ≤ 1 := by
  unfold grow1
  split
  · simp
  · split <;> simp
theorem pure_grown : ∀ ds R, F_grown ds R → sem_grown { nx := fun _ => R .non, rt := R } (startD 7 ds) := by
  rintro ds R ⟨ws, W, rest, s, l, rfl, hl, hn, hw, hr, hs, hll, r⟩
  show sem_grown _ [some _, some _, some _, none, none, none, none]
  have hw' : ∀ k, k < ws.length → (ws.getD k []).length ≤ 1000 := fun k hk => by
    rw [List.getD_eq_getElem?_getD, List.getElem?_eq_getElem hk]
    exact hw _ (List.getElem_mem hk)
  have hv : valD (encW W) (Sum.inr ⟨rest.toArray⟩) = some (dRows s l) := by
    have := valD_enc rest W
    rw [hl] at this
    exact this
  simp only [sem_grown, x_var, x_c, x_imm, x_op, x_un, x_cb, x_call, x_nil, x_cons, x_tup, x_lst, x_noPart, x_part, x_sl, x_test, x_and, x_or, x_not, x_yes, x_andV, x_orV, x_notV, x_if, x_it, x_gname, x_seq, x_skip, x_brk, x_cont, x_ret, x_retN, x_drop, x_ifS, x_set, x_setO, x_asg, x_sortSet, x_for, x_get, x_din, x_dnotin, List.set_cons_zero, List.set_cons_succ, List.getElem?_cons_zero, List.getElem?_cons_succ, List.length_cons, List.length_nil, Option.some.injEq, exists_eq_left', D.bl.injEq, D.int.injEq, fGet, keyD, hv]
  refine ⟨imm_dRows s l, ?_⟩
  simp only [dRows, dgTup, dgCons, dgNil, x_var, x_c, x_imm, x_op, x_un, x_cb, x_call, x_nil, x_cons, x_tup, x_lst, x_noPart, x_part, x_sl, x_test, x_and, x_or, x_not, x_yes, x_andV, x_orV, x_notV, x_if, x_it, x_gname, x_seq, x_skip, x_brk, x_cont, x_ret, x_retN, x_drop, x_ifS, x_set, x_setO, x_asg, x_sortSet, x_for, x_get, x_din, x_dnotin, List.set_cons_zero, List.set_cons_succ, List.getElem?_cons_zero, List.getElem?_cons_succ, List.length_cons, List.length_nil, Option.some.injEq, exists_eq_left', D.bl.injEq, D.int.injEq, flatD, immL, fLen, dRng1, List.length_map, rngD_nat, true_and]
  refine ⟨by decide, by decide, by omega, ?_⟩
  refine forL_inv dI (fun left δ => ∃ (k : Nat) (acc : List Ent) (a : Option D), left = List.range' k (ws.length - k) ∧ k ≤ ws.length ∧ δ = [some (.tup (ws.map dW)), some (.dK (encW W)), some (.str rest), some (dT s), some (dT l), some (.lst (acc.map dG)), a] ∧ acc = (List.range k).flatMap (grow1 ws rest s l) ∧ acc.length ≤ k) (List.range ws.length) _ ⟨0, [], none, by rw [List.range_eq_range', Nat.sub_zero], Nat.zero_le _, rfl, rfl, Nat.le_refl _⟩ ?_ ?_
  · rintro δ ⟨k, acc, a, h1, h2, rfl, h3, h4⟩
    have := range_end h1 h2
    subst this
    have h5 : acc = grownL ws rest s l := h3
    rw [h5]
    exact r
  · rintro k xs δ ⟨k', acc, a, h1, h2, rfl, h3, h4⟩ KK hK
    obtain ⟨rfl, h5, h6⟩ := range_step h1
    have a1 : atI (ws.map dW) (k : Int) = some (dW (ws.getD k [])) := atW h6
    have l1 := hw' k h6
    have fin : ∀ (g : List Ent), grow1 ws rest s l k = g → KK [some (.tup (ws.map dW)), some (.dK (encW W)), some (.str rest), some (dT s), some (dT l), some (.lst ((acc ++ g).map dG)), some (dI k)] := fun g hg => by
      refine hK _ ⟨k + 1, acc ++ g, some (dI k), h5, by omega, rfl, ?_, ?_⟩
      · rw [List.range_succ, List.flatMap_append, ← h3]
        simp [hg]
      · have := grow1_len ws rest s l k
        rw [hg] at this
        rw [List.length_append]
        omega
    simp only [x_var, x_c, x_imm, x_op, x_un, x_cb, x_call, x_nil, x_cons, x_tup, x_lst, x_noPart, x_part, x_sl, x_test, x_and, x_or, x_not, x_yes, x_andV, x_orV, x_notV, x_if, x_it, x_gname, x_seq, x_skip, x_brk, x_cont, x_ret, x_retN, x_drop, x_ifS, x_set, x_setO, x_asg, x_sortSet, x_for, x_get, x_din, x_dnotin, List.set_cons_zero, List.set_cons_succ, List.getElem?_cons_zero, List.getElem?_cons_succ, List.length_cons, List.length_nil, Option.some.injEq, exists_eq_left', D.bl.injEq, D.int.injEq, fSub, a1, dM1, fStartswith, true_and, decide_eq_true_eq]
    by_cases c1 : ws.getD k [] <+: rest
    · rw [if_pos c1]
      have hp := pref_app c1
      have hle : (ws.getD k []).length ≤ rest.length := by rw [hp]; simp
      have c5 : cutL rest (some ((ws.getD k []).length : Int)) none = rest.drop (ws.getD k []).length := cutL_drop hle
      have := fin [(rest.drop (ws.getD k []).length, s ++ [k], l)] (by unfold grow1; rw [if_pos c1])
      simp only [x_var, x_c, x_imm, x_op, x_un, x_cb, x_call, x_nil, x_cons, x_tup, x_lst, x_noPart, x_part, x_sl, x_test, x_and, x_or, x_not, x_yes, x_andV, x_orV, x_notV, x_if, x_it, x_gname, x_seq, x_skip, x_brk, x_cont, x_ret, x_retN, x_drop, x_ifS, x_set, x_setO, x_asg, x_sortSet, x_for, x_get, x_din, x_dnotin, List.set_cons_zero, List.set_cons_succ, List.getElem?_cons_zero, List.getElem?_cons_succ, List.length_cons, List.length_nil, Option.some.injEq, exists_eq_left', D.bl.injEq, D.int.injEq, fSub, a1, fSl, fLen, c5, imm, immL, dAppend, fAdd, dT, imm_ints, List.length_map, sizeLine_eq, Bool.and_true, true_and]
      simp only [List.map_append, List.map_cons, List.map_nil, dG, dRows, dT, dW] at this
      refine ⟨by omega, by omega, by omega, by omega, by decide, by decide, by have := imm_ints (s ++ [k]); rw [Bool.true_and]; simpa using this, by omega, this⟩
    · rw [if_neg c1]
      by_cases c2 : rest <+: ws.getD k []
      · have hp := pref_app c2
        have hle : rest.length ≤ (ws.getD k []).length := by rw [hp]; simp
        have c5 : cutL (ws.getD k []) (some (rest.length : Int)) none = (ws.getD k []).drop rest.length := cutL_drop hle
        have := fin [((ws.getD k []).drop rest.length, l, s ++ [k])] (by unfold grow1; rw [if_neg c1, if_pos c2])
        rw [if_pos c2]
        simp only [x_var, x_c, x_imm, x_op, x_un, x_cb, x_call, x_nil, x_cons, x_tup, x_lst, x_noPart, x_part, x_sl, x_test, x_and, x_or, x_not, x_yes, x_andV, x_orV, x_notV, x_if, x_it, x_gname, x_seq, x_skip, x_brk, x_cont, x_ret, x_retN, x_drop, x_ifS, x_set, x_setO, x_asg, x_sortSet, x_for, x_get, x_din, x_dnotin, List.set_cons_zero, List.set_cons_succ, List.getElem?_cons_zero, List.getElem?_cons_succ, List.length_cons, List.length_nil, Option.some.injEq, exists_eq_left', D.bl.injEq, D.int.injEq, fSub, a1, fSl, fLen, c5, imm, immL, dAppend, fAdd, dT, imm_ints, List.length_map, sizeLine_eq, Bool.and_true, true_and]
        simp only [List.map_append, List.map_cons, List.map_nil, dG, dRows, dT, dW] at this
        refine ⟨by omega, by omega, by omega, by omega, by decide, by decide, by have := imm_ints (s ++ [k]); rw [Bool.true_and]; simpa using this, by omega, this⟩
      · have := fin [] (by unfold grow1; rw [if_neg c1, if_neg c2])
        rw [if_neg c2]
        rw [List.append_nil] at this
        exact this
end PD
set_option Elab.async false
set_option linter.all false
set_option maxRecDepth 100000
set_option maxHeartbeats 4000000
namespace PD
open PySem PySem.Spec PyProof.Rows L2
/-! ### search of codes -/
def sufs (ws : List Wd) : List Wd := ws.flatMap fun w => (List.range (w.length - 1)).map fun i => w.drop (i + 1)
theorem mem_sufs {ws : List Wd} {w r pre : Wd} (hw : w ∈ ws) (e : w = pre ++ r) (hp : pre ≠ []) (hr : r ≠ []) : r ∈ sufs ws := by
  unfold sufs
  rw [List.mem_flatMap]
  refine ⟨w, hw, List.mem_map.mpr ⟨pre.length - 1, List.mem_range.mpr ?_, ?_⟩⟩
  · have h1 := List.length_pos_iff.mpr hp
    have h2 := List.length_pos_iff.mpr hr
    rw [e, List.length_append]
    omega
  · have h1 := List.length_pos_iff.mpr hp
    have : pre.length - 1 + 1 = pre.length := by omega
    rw [this, e]
    simp
structure Pre (ws : List Wd) (e : Ent) : Prop where
  suf : ∃ w ∈ ws, ∃ pre, pre ≠ [] ∧ w = pre ++ e.1
  s : ∀ k ∈ e.2.1, k < ws.length
  l : ∀ k ∈ e.2.2, k < ws.length
  eq : spl ws e.2.2 = spl ws e.2.1 ++ e.1
  hd : ∃ a b s' l', e.2.1 = a :: s' ∧ e.2.2 = b :: l' ∧ a ≠ b
theorem getD_mem {ws : List Wd} {k : Nat} (h : k < ws.length) : ws.getD k [] ∈ ws := by
  rw [List.getD_eq_getElem?_getD, List.getElem?_eq_getElem h]
  exact List.getElem_mem h
theorem spl_snoc (ws : List Wd) (s : List Nat) (k : Nat) : spl ws (s ++ [k]) = spl ws s ++ ws.getD k [] := by
  rw [spl_app, spl_cons, spl_nil, List.append_nil]
theorem grow_pre {ws : List Wd} {r : Wd} {s l : List Nat} {k : Nat} {g : Ent} (hne : ∀ w ∈ ws, w ≠ []) (P : Pre ws (r, s, l)) (hr : r ≠ []) (hk : k < ws.length) (hg : g ∈ grow1 ws r s l k) :
    Pre ws g ∧ g.2.1.length + g.2.2.length = s.length + l.length + 1 ∧ (spl ws g.2.2).length ≤ (spl ws l).length + g.1.length := by
  unfold grow1 at hg
  split at hg
  · next c =>
    obtain ⟨t, rfl⟩ := c
    rw [List.mem_singleton] at hg
    subst hg
    have ed : (ws.getD k [] ++ t).drop (ws.getD k []).length = t := by simp
    rw [ed]
    obtain ⟨w, hw, pre, hp, e⟩ := P.suf
    obtain ⟨a, b, s', l', h1, h2, h3⟩ := P.hd
    have h1 : s = a :: s' := h1
    have h2 : l = b :: l' := h2
    refine ⟨⟨⟨w, hw, pre ++ ws.getD k [], by simp [hp], by rw [List.append_assoc]; exact e⟩, fun x hx => ?_, P.l, ?_, ⟨a, b, s' ++ [k], l', by simp [h1], h2, h3⟩⟩, by simp only [List.length_append, List.length_cons, List.length_nil]; omega, Nat.le_add_right _ _⟩
    · rcases List.mem_append.mp hx with hx | hx
      · exact P.s x hx
      · rw [List.mem_singleton.mp hx]; exact hk
    · have := P.eq
      simp only at this ⊢
      rw [spl_snoc, this, List.append_assoc]
  · split at hg
    · next c1 c2 =>
      obtain ⟨t, ht⟩ := c2
      rw [List.mem_singleton] at hg
      subst hg
      have ed : (ws.getD k []).drop r.length = t := by rw [← ht]; simp
      rw [ed]
      obtain ⟨a, b, s', l', h1, h2, h3⟩ := P.hd
      have h1 : s = a :: s' := h1
      have h2 : l = b :: l' := h2
      have heq := P.eq
      simp only at heq
      refine ⟨⟨⟨_, getD_mem hk, r, hr, ht.symm⟩, P.l, fun x hx => ?_, ?_, ⟨b, a, l', s' ++ [k], h2, by simp [h1], fun e => h3 e.symm⟩⟩, by simp only [List.length_append, List.length_cons, List.length_nil]; omega, ?_⟩
      · rcases List.mem_append.mp hx with hx | hx
        · exact P.s x hx
        · rw [List.mem_singleton.mp hx]; exact hk
      · simp only
        rw [spl_snoc, ← ht, heq, List.append_assoc]
      · simp only
        rw [spl_snoc, ← ht, heq, List.length_append, List.length_append, List.length_append]
        omega
    · cases hg
theorem mem_grownL {ws : List Wd} {r : Wd} {s l : List Nat} {g : Ent} : g ∈ grownL ws r s l ↔ ∃ k, k < ws.length ∧ g ∈ grow1 ws r s l k := by
  unfold grownL
  rw [List.mem_flatMap]
  constructor
  · rintro ⟨k, hk, h⟩
    exact ⟨k, List.mem_range.mp hk, h⟩
  · rintro ⟨k, hk, h⟩
    exact ⟨k, List.mem_range.mpr hk, h⟩
structure Closed (ws : List Wd) (rs : List Wd) : Prop where
  nd : ws.Nodup
  ini : ∀ i j, i < ws.length → j < ws.length → ws.getD i [] ≠ ws.getD j [] → ∀ r, ws.getD j [] = ws.getD i [] ++ r → r ∈ rs
  ne : [] ∉ rs
  clo : ∀ r ∈ rs, ∀ k, k < ws.length → (ws.getD k [] <+: r → r.drop (ws.getD k []).length ∈ rs) ∧ (r <+: ws.getD k [] → (ws.getD k []).drop r.length ∈ rs)
  suf : ∀ r ∈ rs, ∃ w ∈ ws, ∃ pre, pre ≠ [] ∧ w = pre ++ r
def sumL (l : List Wd) : Nat := (l.map (·.length)).sum
structure TwoRows (ws : List Wd) (M : Nat) (s l : List Nat) : Prop where
  vs : ∀ k ∈ s, k < ws.length
  vl : ∀ k ∈ l, k < ws.length
  eq : spl ws s = spl ws l
  ne : s ≠ l
  len : s.length + l.length ≤ 3 + (sufs ws).length
  few : s.length + l.length ≤ 2 ∨ (ws.Nodup ∧ (spl ws s).length ≤ M + sumL (sufs ws))
def F_search_codes : DF := fun ds R => ∃ (ws : List Wd) (M : Nat), ds = [.tup (ws.map dW)] ∧ ws.length ≤ 100 ∧ (∀ w ∈ ws, w ≠ [] ∧ w.length ≤ M) ∧ M ≤ 1000 ∧ (sufs ws).length ≤ 500 ∧
  (∀ rs, Closed ws rs → R (.tup [.tup (rs.map dW), .non])) ∧ ∀ s l, TwoRows ws M s l → R (.tup [.non, dRows s l])
def M_search_codes : Nat → Bool := fun i => ([3, 4] : List Nat).contains i
/- 0 words, 1 i, 2 j, 3 ways, 4 waiting, 5 at, 6 rest, 7 rows -/
def sem_search_codes : DS := (dSeq (dFor (dRng1 (dCons (dCB fLen (dCons (dVar 0) dNil)) dNil)) (dgName 1) (dFor (dRng1 (dCons (dVar 1) dNil)) (dgName 2) (dIfS (dTest (dOp fEq (dOp fSub (dVar 0) (dVar 1)) (dOp fSub (dVar 0) (dVar 2)))) (dRet (dTup (dCons (dC .non) (dCons (dTup (dCons (dTup (dCons (dImm (dVar 2)) dNil)) (dCons (dTup (dCons (dImm (dVar 1)) dNil)) dNil))) dNil)))) dSkip)))
  (dSeq (dSetO 3 (dCall F_rests_of (dCons (dVar 0) dNil)))
  (dSeq (dSetO 4 (dCB fListK (dCons (dVar 3) dNil)))
  (dSeq (dSet 5 (dC (.int 0)))
  (dSeq (dWhile (dTest (dOp (fB0 fun i j => decide (i < j)) (dVar 5) (dCB fLen (dCons (dVar 4) dNil)))) (dSeq (dFor (dIt (dCall F_grown (dCons (dVar 0) (dCons (dVar 3) (dCons (dOp fSub (dVar 4) (dVar 5)) dNil))))) (dgTup 2 (dgCons (dgName 6) (dgCons (dgName 7) dgNil))) (dSeq (dIfS (dTest (dOp fEq (dVar 6) (dC (.str [])))) (dRet (dTup (dCons (dC .non) (dCons (dImm (dVar 7)) dNil)))) dSkip)
  (dIfS (dTest (dDNotIn (dVar 6) (dVar 3))) (dSeq (dPut 3 (dVar 6) (dVar 7))
  (dAppend 4 (dVar 6))) dSkip)))
  (dAug (fun i j => i + j) 5 (dC (.int 1)))))
  (dRet (dTup (dCons (dCB fTuple (dCons (dCB fSortedK (dCons (dVar 3) dNil)) dNil)) (dCons (dC .non) dNil)))))))))
theorem len_search_codes : ∀ ds R, F_search_codes ds R → ds.length = 1 := by
  rintro ds R ⟨_, _, rfl, _⟩
  rfl
theorem own_search_codes : ∀ ds R, F_search_codes ds R → ∀ i, i < ds.length → M_search_codes i = false := by
  rintro ds R ⟨_, _, rfl, _⟩ i hi
  have : i = 0 := by simpa using hi
  subst this
  rfl
theorem sumL_le {l m : List Wd} (nd : l.Nodup) (h : ∀ x ∈ l, x ∈ m) : sumL l ≤ sumL m := by
  induction l generalizing m with
  | nil => exact Nat.zero_le _
  | cons x l ih =>
    obtain ⟨h1, h2⟩ := List.nodup_cons.mp nd
    have hx := h x (List.mem_cons_self ..)
    have h3 := ih (m := m.erase x) h2 fun y hy => (List.mem_erase_of_ne fun e => h1 (by rw [← e]; exact hy)).mpr (h y (List.mem_cons_of_mem _ hy))
    have pm : sumL m = sumL (x :: m.erase x) := by
      unfold sumL
      exact ((List.perm_cons_erase hx).map (·.length)).sum_nat
    rw [pm]
    simp only [sumL, List.map_cons, List.sum_cons] at h3 ⊢
    omega
/-- the table along the search -/
structure Tab (ws : List Wd) (M : Nat) (W : List Ent) : Prop where
  nd : (W.map (·.1)).Nodup
  pre : ∀ e ∈ W, Pre ws e ∧ e.1 ≠ []
  len : ∀ (i : Nat) (e : Ent), W[i]? = some e → e.2.1.length + e.2.2.length ≤ 2 + i
  big : ∀ (i : Nat) (e : Ent), W[i]? = some e → (spl ws e.2.2).length ≤ M + sumL ((W.take (i + 1)).map (·.1))
  ini : ∀ i j, i < ws.length → j < ws.length → ws.getD i [] ≠ ws.getD j [] → ∀ r, ws.getD j [] = ws.getD i [] ++ r → r ∈ W.map (·.1)
theorem Tab.sub {ws : List Wd} {M : Nat} {W : List Ent} (T : Tab ws M W) : ∀ r ∈ W.map (·.1), r ∈ sufs ws := fun r hr => by
  obtain ⟨e, he, rfl⟩ := List.mem_map.mp hr
  obtain ⟨p, hn⟩ := T.pre e he
  obtain ⟨w, hw, pre, hp, e2⟩ := p.suf
  exact mem_sufs hw e2 hp hn
theorem Tab.bound {ws : List Wd} {M : Nat} {W : List Ent} (T : Tab ws M W) : W.length ≤ (sufs ws).length := by
  have := nodup_len _ _ T.nd T.sub
  rwa [List.length_map] at this
theorem Tab.total {ws : List Wd} {M : Nat} {W : List Ent} (T : Tab ws M W) : sumL (W.map (·.1)) ≤ sumL (sufs ws) := sumL_le T.nd T.sub
theorem sumL_take (l : List Wd) (n : Nat) : sumL (l.take n) ≤ sumL l := by
  have : sumL l = sumL (l.take n) + sumL (l.drop n) := by
    unfold sumL
    rw [← List.sum_append, ← List.map_append, List.take_append_drop]
  omega
theorem Tab.snoc {ws : List Wd} {M : Nat} {W : List Ent} (T : Tab ws M W) {e g : Ent} {at_ : Nat} (he : W[at_]? = some e) (hp : Pre ws g) (hn : g.1 ≠ []) (hnew : g.1 ∉ W.map (·.1)) (h1 : g.2.1.length + g.2.2.length = e.2.1.length + e.2.2.length + 1) (h2 : (spl ws g.2.2).length ≤ (spl ws e.2.2).length + g.1.length) : Tab ws M (W ++ [g]) := by
  have hat := (List.getElem?_eq_some_iff.mp he).1
  refine ⟨?_, fun x hx => ?_, fun i x hx => ?_, fun i x hx => ?_, fun i j hi hj ne r hr => ?_⟩
  · rw [List.map_append]
    refine List.nodup_append.mpr ⟨T.nd, by simp, fun x hx y hy e => ?_⟩
    simp only [List.map_cons, List.map_nil, List.mem_singleton] at hy
    rw [hy] at e
    exact hnew (e ▸ hx)
  · rcases List.mem_append.mp hx with hx | hx
    · exact T.pre x hx
    · rw [List.mem_singleton.mp hx]; exact ⟨hp, hn⟩
  · rcases Nat.lt_or_ge i W.length with q | q
    · rw [List.getElem?_append_left q] at hx
      exact T.len i x hx
    · rw [List.getElem?_append_right q] at hx
      have h0 : i - W.length = 0 := by
        have := (List.getElem?_eq_some_iff.mp hx).1
        simp at this
        omega
      rw [h0] at hx
      simp only [List.getElem?_cons_zero, Option.some.injEq] at hx
      subst hx
      have := T.len at_ e he
      omega
  · rcases Nat.lt_or_ge i W.length with q | q
    · rw [List.getElem?_append_left q] at hx
      rw [List.take_append_of_le_length (by omega)]
      exact T.big i x hx
    · rw [List.getElem?_append_right q] at hx
      have h0 : i - W.length = 0 := by
        have := (List.getElem?_eq_some_iff.mp hx).1
        simp at this
        omega
      rw [h0] at hx
      simp only [List.getElem?_cons_zero, Option.some.injEq] at hx
      subst hx
      have e1 : (W ++ [g]).take (i + 1) = W ++ [g] := List.take_of_length_le (by simp; omega)
      rw [e1]
      have := T.big at_ e he
      have h3 : sumL ((W.take (at_ + 1)).map (·.1)) ≤ sumL (W.map (·.1)) := by
        rw [List.map_take]
        exact sumL_take _ _
      have h4 : sumL ((W ++ [g]).map (·.1)) = sumL (W.map (·.1)) + g.1.length := by simp [sumL]
      omega
  · rw [List.map_append]
    exact List.mem_append_left _ (T.ini i j hi hj ne r hr)
theorem Tab.start {ws : List Wd} {M : Nat} {W : List Ent} (hM : ∀ w ∈ ws, w ≠ [] ∧ w.length ≤ M) (K : RestsOk ws W) (nd : ∀ i j, i < ws.length → j < ws.length → i ≠ j → ws.getD i [] ≠ ws.getD j []) : Tab ws M W := by
  refine ⟨K.nd, fun e he => ?_, fun i e he => ?_, fun i e he => ?_, K.all⟩
  · obtain ⟨i, j, h1, h2, hi, hj, hij, hne, hw⟩ := K.ent e he
    refine ⟨⟨⟨_, getD_mem hj, _, (hM _ (getD_mem hi)).1, hw⟩, by rw [h1]; simpa using hi, by rw [h2]; simpa using hj, ?_, ⟨i, j, [], [], h1, h2, hij⟩⟩, fun z => ?_⟩
    · rw [h1, h2]
      simp only [spl_cons, spl_nil, List.append_nil]
      exact hw
    · rw [z, List.append_nil] at hw
      exact hne hw.symm
  · obtain ⟨i', j, h1, h2, _⟩ := K.ent e (List.mem_of_getElem? he)
    rw [h1, h2]
    simp
  · obtain ⟨i', j, h1, h2, hi, hj, _⟩ := K.ent e (List.mem_of_getElem? he)
    rw [h2]
    simp only [spl_cons, spl_nil, List.append_nil]
    have := (hM _ (getD_mem hj)).2
    omega
theorem encW_keys (W : List Ent) : ((encW W).map (·.1)).map kD = (W.map (·.1)).map dW := by
  unfold encW
  rw [List.map_map, List.map_map, List.map_map]
  rfl
theorem imm_words (l : List Wd) : immL (l.map dW) = true := immL_map fun _ _ => rfl
theorem alk_words (l : List Wd) : alkD (l.map dW) = true := alkD_map alk_W l
theorem closed_of {ws : List Wd} {M : Nat} {W : List Ent} {rs : List Wd} (T : Tab ws M W) (nd : ws.Nodup) (hr : ∀ r, r ∈ rs ↔ r ∈ W.map (·.1))
    (cl : ∀ (i : Nat) (e : Ent), W[i]? = some e → ∀ g ∈ grownL ws e.1 e.2.1 e.2.2, g.1 ≠ [] ∧ g.1 ∈ W.map (·.1)) : Closed ws rs := by
  have hne : [] ∉ rs := fun z => by
    obtain ⟨e, he, h⟩ := List.mem_map.mp ((hr _).mp z)
    exact (T.pre e he).2 h
  refine ⟨nd, fun i j hi hj ne r h => (hr r).mpr (T.ini i j hi hj ne r h), hne, fun r h k hk => ?_, fun r h => ?_⟩
  · obtain ⟨e, he, rfl⟩ := List.mem_map.mp ((hr r).mp h)
    obtain ⟨i, hi, e2⟩ := List.getElem_of_mem he
    have hget : W[i]? = some e := by rw [List.getElem?_eq_getElem hi, e2]
    have key : ws.getD k [] <+: e.1 → e.1.drop (ws.getD k []).length ∈ rs := fun c => by
      have := cl i e hget (e.1.drop (ws.getD k []).length, e.2.1 ++ [k], e.2.2) (mem_grownL.mpr ⟨k, hk, by unfold grow1; rw [if_pos c]; simp⟩)
      exact (hr _).mpr this.2
    refine ⟨key, fun c => ?_⟩
    by_cases c1 : ws.getD k [] <+: e.1
    · have heq : e.1 = ws.getD k [] := by
        obtain ⟨t, ht⟩ := c
        obtain ⟨t', ht'⟩ := c1
        have : t = [] := by
          have h1 := congrArg List.length ht
          have h2 := congrArg List.length ht'
          rw [List.length_append] at h1 h2
          exact List.length_eq_zero_iff.mp (by omega)
        rw [this, List.append_nil] at ht
        exact ht
      have := key c1
      rw [heq] at this
      simp at this
      exact absurd this hne
    · have := cl i e hget ((ws.getD k []).drop e.1.length, e.2.2, e.2.1 ++ [k]) (mem_grownL.mpr ⟨k, hk, by unfold grow1; rw [if_neg c1, if_pos c]; simp⟩)
      exact (hr _).mpr this.2
  · obtain ⟨e, he, rfl⟩ := List.mem_map.mp ((hr r).mp h)
    exact (T.pre e he).1.suf
theorem pure_search_codes : ∀ ds R, F_search_codes ds R → sem_search_codes { nx := fun _ => R .non, rt := R } (startD 8 ds) := by
  rintro ds R ⟨ws, M, rfl, hn, hM, hM2, hN, rA, rB⟩
  show sem_search_codes _ [some _, none, none, none, none, none, none, none]
  simp only [sem_search_codes, x_var, x_c, x_imm, x_op, x_un, x_cb, x_call, x_nil, x_cons, x_tup, x_lst, x_noPart, x_part, x_sl, x_test, x_and, x_or, x_not, x_yes, x_andV, x_orV, x_notV, x_if, x_it, x_gname, x_seq, x_skip, x_brk, x_cont, x_ret, x_retN, x_drop, x_ifS, x_set, x_setO, x_asg, x_sortSet, x_for, x_get, x_din, x_dnotin, List.set_cons_zero, List.set_cons_succ, List.getElem?_cons_zero, List.getElem?_cons_succ, List.length_cons, List.length_nil, Option.some.injEq, exists_eq_left', D.bl.injEq, D.int.injEq, fLen, dRng1, List.length_map, rngD_nat]
  refine ⟨by omega, ?_⟩
  refine forL_inv dI (fun rest δ => ∃ (i : Nat) (a b : Option D), rest = List.range' i (ws.length - i) ∧ i ≤ ws.length ∧ δ = [some (.tup (ws.map dW)), a, b, none, none, none, none, none] ∧ ∀ p q, p < i → q < p → ws.getD p [] ≠ ws.getD q []) (List.range ws.length) _ ⟨0, none, none, by rw [List.range_eq_range', Nat.sub_zero], Nat.zero_le _, rfl, fun p q h => by omega⟩ ?_ ?_
  · rintro δ ⟨i, a, b, h1, h2, rfl, hd⟩
    have := range_end h1 h2
    subst this
    have nd0 : ∀ i j, i < ws.length → j < ws.length → i ≠ j → ws.getD i [] ≠ ws.getD j [] := fun i j hi hj hij => by
      rcases Nat.lt_or_ge i j with q | q
      · exact fun e => hd j i hj q e.symm
      · exact hd i j hi (by omega)
    have ndw : ws.Nodup := by
      refine List.pairwise_iff_getElem.mpr fun i j hi hj hij e => ?_
      refine nd0 i j hi hj (by omega) ?_
      rw [List.getD_eq_getElem?_getD, List.getD_eq_getElem?_getD, List.getElem?_eq_getElem hi, List.getElem?_eq_getElem hj, e]
    simp only [x_var, x_c, x_imm, x_op, x_un, x_cb, x_call, x_nil, x_cons, x_tup, x_lst, x_noPart, x_part, x_sl, x_test, x_and, x_or, x_not, x_yes, x_andV, x_orV, x_notV, x_if, x_it, x_gname, x_seq, x_skip, x_brk, x_cont, x_ret, x_retN, x_drop, x_ifS, x_set, x_setO, x_asg, x_sortSet, x_for, x_get, x_din, x_dnotin, List.set_cons_zero, List.set_cons_succ, List.getElem?_cons_zero, List.getElem?_cons_succ, List.length_cons, List.length_nil, Option.some.injEq, exists_eq_left', D.bl.injEq, D.int.injEq]
    refine ⟨ws, rfl, hn, fun w hw => by have := (hM w hw).2; omega, fun W hW => ?_⟩
    have T0 := Tab.start hM hW nd0
    simp only [x_var, x_c, x_imm, x_op, x_un, x_cb, x_call, x_nil, x_cons, x_tup, x_lst, x_noPart, x_part, x_sl, x_test, x_and, x_or, x_not, x_yes, x_andV, x_orV, x_notV, x_if, x_it, x_gname, x_seq, x_skip, x_brk, x_cont, x_ret, x_retN, x_drop, x_ifS, x_set, x_setO, x_asg, x_sortSet, x_for, x_get, x_din, x_dnotin, List.set_cons_zero, List.set_cons_succ, List.getElem?_cons_zero, List.getElem?_cons_succ, List.length_cons, List.length_nil, Option.some.injEq, exists_eq_left', D.bl.injEq, D.int.injEq, flatD, immK_enc, fListK, encW_keys, imm_words, true_and]
    refine ⟨by decide, by decide, ?_⟩
    refine ⟨fun k δ => ∃ (at_ : Nat) (W : List Ent) (a b c d : Option D), k = 500 - at_ ∧ at_ ≤ W.length ∧ δ = [some (.tup (ws.map dW)), a, b, some (.dK (encW W)), some (.lst ((W.map (·.1)).map dW)), some (.int (at_ : Int)), c, d] ∧ Tab ws M W ∧
      (∀ (i : Nat) (e : Ent), i < at_ → W[i]? = some e → ∀ g ∈ grownL ws e.1 e.2.1 e.2.2, g.1 ≠ [] ∧ g.1 ∈ W.map (·.1)), ⟨_, 0, W, a, b, none, none, rfl, Nat.zero_le _, rfl, T0, fun i e h => by omega⟩, ?_⟩
    rintro k δ ⟨at_, W, a, b, c, d, rfl, hle, rfl, T, hcl⟩
    have hWl : W.length ≤ 500 := Nat.le_trans T.bound hN
    simp only [x_var, x_c, x_imm, x_op, x_un, x_cb, x_call, x_nil, x_cons, x_tup, x_lst, x_noPart, x_part, x_sl, x_test, x_and, x_or, x_not, x_yes, x_andV, x_orV, x_notV, x_if, x_it, x_gname, x_seq, x_skip, x_brk, x_cont, x_ret, x_retN, x_drop, x_ifS, x_set, x_setO, x_asg, x_sortSet, x_for, x_get, x_din, x_dnotin, List.set_cons_zero, List.set_cons_succ, List.getElem?_cons_zero, List.getElem?_cons_succ, List.length_cons, List.length_nil, Option.some.injEq, exists_eq_left', D.bl.injEq, D.int.injEq, fLen, fB0, List.length_map, Int.ofNat_lt, decide_eq_true_eq]
    by_cases hat : at_ < W.length
    · rw [if_pos hat]
      have hek : W[at_]? = some W[at_] := List.getElem?_eq_getElem hat
      obtain ⟨e, eE⟩ : ∃ e, e = W[at_] := ⟨_, rfl⟩
      rw [← eE] at hek
      obtain ⟨Pe, hne⟩ := T.pre e (List.mem_of_getElem? hek)
      have a1 : atI ((W.map (·.1)).map dW) (at_ : Int) = some (dW e.1) := by
        rw [atI_nat, List.getElem?_map, List.getElem?_map, hek]
        rfl
      have hlook : lookW W e.1 = some (e.2.1, e.2.2) := by
        cases hl : lookW W e.1 with
        | none => exact absurd (List.mem_map.mpr ⟨e, List.mem_of_getElem? hek, rfl⟩) (lookW_none hl)
        | some p =>
          have h3 := lookW_some hl
          have : (e.1, p) = e := by
            have h4 := T.nd
            obtain ⟨i, hi, ei⟩ := List.getElem_of_mem h3
            have h5 := List.pairwise_iff_getElem.mp h4
            rcases Nat.lt_trichotomy i at_ with q | q | q
            · refine absurd ?_ (h5 i at_ (by simpa using hi) (by simpa using hat) q)
              simp only [List.getElem_map, ei, ← eE]
            · subst q
              rw [← ei, ← eE]
            · refine absurd ?_ (h5 at_ i (by simpa using hat) (by simpa using hi) q)
              simp only [List.getElem_map, ei, ← eE]
          rw [← this]
      obtain ⟨w0, hw0, pre0, hp0, ew0⟩ := Pe.suf
      have hel : e.1.length ≤ 1000 := by
        have := (hM w0 hw0).2
        have h2 := congrArg List.length ew0
        rw [List.length_append] at h2
        omega
      have hsl := T.len at_ e hek
      simp only [x_var, x_c, x_imm, x_op, x_un, x_cb, x_call, x_nil, x_cons, x_tup, x_lst, x_noPart, x_part, x_sl, x_test, x_and, x_or, x_not, x_yes, x_andV, x_orV, x_notV, x_if, x_it, x_gname, x_seq, x_skip, x_brk, x_cont, x_ret, x_retN, x_drop, x_ifS, x_set, x_setO, x_asg, x_sortSet, x_for, x_get, x_din, x_dnotin, List.set_cons_zero, List.set_cons_succ, List.getElem?_cons_zero, List.getElem?_cons_succ, List.length_cons, List.length_nil, Option.some.injEq, exists_eq_left', D.bl.injEq, D.int.injEq, fSub, a1]
      refine ⟨ws, W, e.1, e.2.1, e.2.2, rfl, hlook, hn, fun w hw => by have := (hM w hw).2; omega, hel, by omega, by omega, ?_⟩
      simp only [fItems]
      refine forL_inv dG (fun rest δ => ∃ (done : List Ent) (W' : List Ent) (a b c d : Option D), δ = [some (.tup (ws.map dW)), a, b, some (.dK (encW W')), some (.lst ((W'.map (·.1)).map dW)), some (.int (at_ : Int)), c, d] ∧ done ++ rest = grownL ws e.1 e.2.1 e.2.2 ∧ (∃ g, W' = W ++ g) ∧ Tab ws M W' ∧ ∀ g ∈ done, g.1 ≠ [] ∧ g.1 ∈ W'.map (·.1)) _ _ ⟨[], W, a, b, c, d, rfl, rfl, ⟨[], by simp⟩, T, fun g hg => nomatch hg⟩ ?_ ?_
      · rintro δ ⟨done, W', a, b, c, d, rfl, h3, ⟨g, rfl⟩, T', hg'⟩
        rw [List.append_nil] at h3
        subst h3
        simp only [x_var, x_c, x_imm, x_op, x_un, x_cb, x_call, x_nil, x_cons, x_tup, x_lst, x_noPart, x_part, x_sl, x_test, x_and, x_or, x_not, x_yes, x_andV, x_orV, x_notV, x_if, x_it, x_gname, x_seq, x_skip, x_brk, x_cont, x_ret, x_retN, x_drop, x_ifS, x_set, x_setO, x_asg, x_sortSet, x_for, x_get, x_din, x_dnotin, List.set_cons_zero, List.set_cons_succ, List.getElem?_cons_zero, List.getElem?_cons_succ, List.length_cons, List.length_nil, Option.some.injEq, exists_eq_left', D.bl.injEq, D.int.injEq, dAug]
        refine ⟨500 - (at_ + 1), by omega, at_ + 1, W ++ g, a, b, c, d, rfl, by rw [List.length_append]; omega, by simp, T', fun i e' hi he' x hx => ?_⟩
        have hil : i < W.length := by omega
        rw [List.getElem?_append_left hil] at he'
        rcases Nat.lt_or_ge i at_ with q | q
        · obtain ⟨q1, q2⟩ := hcl i e' q he' x hx
          exact ⟨q1, by rw [List.map_append]; exact List.mem_append_left _ q2⟩
        · have : i = at_ := by omega
          rw [this, hek] at he'
          cases he'
          exact hg' x hx
      · rintro g rest δ ⟨done, W', a, b, c, d, rfl, h3, ⟨gg, rfl⟩, T', hg'⟩ KK hK
        have hgm : g ∈ grownL ws e.1 e.2.1 e.2.2 := by rw [← h3]; simp
        obtain ⟨k, hk, hgk⟩ := mem_grownL.mp hgm
        obtain ⟨Pg, g1, g2⟩ := grow_pre (fun w hw => (hM w hw).1) (show Pre ws (e.1, e.2.1, e.2.2) from Pe) hne hk hgk
        have heW : (W ++ gg)[at_]? = some e := by rw [List.getElem?_append_left hat]; exact hek
        obtain ⟨r, s, l⟩ := g
        simp only [dG, dgTup, dgCons, dgNil, x_var, x_c, x_imm, x_op, x_un, x_cb, x_call, x_nil, x_cons, x_tup, x_lst, x_noPart, x_part, x_sl, x_test, x_and, x_or, x_not, x_yes, x_andV, x_orV, x_notV, x_if, x_it, x_gname, x_seq, x_skip, x_brk, x_cont, x_ret, x_retN, x_drop, x_ifS, x_set, x_setO, x_asg, x_sortSet, x_for, x_get, x_din, x_dnotin, List.set_cons_zero, List.set_cons_succ, List.getElem?_cons_zero, List.getElem?_cons_succ, List.length_cons, List.length_nil, Option.some.injEq, exists_eq_left', D.bl.injEq, D.int.injEq, fEq, eqb_str, sc, Bool.true_or, true_and, decide_eq_true_eq, fGet, keyD]
        by_cases hr : r = []
        · rw [if_pos hr]
          subst hr
          refine ⟨imm_dRows s l, by decide, rB s l ⟨Pg.s, Pg.l, ?_, ?_, ?_, .inr ⟨ndw, ?_⟩⟩⟩
          · have := Pg.eq
            simp only [List.append_nil] at this
            exact this.symm
          · obtain ⟨x, y, s', l', q1, q2, q3⟩ := Pg.hd
            have q1 : s = x :: s' := q1
            have q2 : l = y :: l' := q2
            rw [q1, q2]
            intro z
            injection z with z _
            exact q3 z
          · simp only at g1
            have := T'.bound
            rw [List.length_append] at this
            omega
          · have q1 := Pg.eq
            simp only [List.append_nil] at q1 g2
            rw [← q1]
            have q2 := T.big at_ e hek
            have q3 : sumL ((W.take (at_ + 1)).map (·.1)) ≤ sumL (W.map (·.1)) := by
              rw [List.map_take]
              exact sumL_take _ _
            have q4 := T.total
            simp only [List.length_nil, Nat.add_zero] at g2
            omega
        · rw [if_neg hr]
          have hv := valD_enc r (W ++ gg)
          cases hl : lookW (W ++ gg) r with
          | some p =>
            rw [hl] at hv
            simp only [Option.map_some] at hv
            simp only [hv, Option.isSome_some, Bool.not_true]
            refine hK _ ⟨done ++ [(r, s, l)], W ++ gg, a, b, some (dW r), some (dRows s l), rfl, by rw [List.append_assoc]; exact h3, ⟨gg, rfl⟩, T', fun x hx => ?_⟩
            rcases List.mem_append.mp hx with hx | hx
            · exact hg' x hx
            · rw [List.mem_singleton.mp hx]
              exact ⟨hr, List.mem_map.mpr ⟨_, lookW_some hl, rfl⟩⟩
          | none =>
            rw [hl] at hv
            simp only [Option.map_none] at hv
            have hput : putD (encW (W ++ gg)) (Sum.inr ⟨r.toArray⟩) (dRows s l) = encW ((W ++ gg) ++ [(r, s, l)]) := putD_new hl s l
            have T2 := T'.snoc heW Pg hr (lookW_none hl) g1 g2
            have hb := T'.bound
            have hlen : (encW (W ++ gg)).length = (W ++ gg).length := by simp [encW]
            simp only [hv, Option.isSome_none, Bool.not_false, if_true, x_var, x_c, x_imm, x_op, x_un, x_cb, x_call, x_nil, x_cons, x_tup, x_lst, x_noPart, x_part, x_sl, x_test, x_and, x_or, x_not, x_yes, x_andV, x_orV, x_notV, x_if, x_it, x_gname, x_seq, x_skip, x_brk, x_cont, x_ret, x_retN, x_drop, x_ifS, x_set, x_setO, x_asg, x_sortSet, x_for, x_get, x_din, x_dnotin, List.set_cons_zero, List.set_cons_succ, List.getElem?_cons_zero, List.getElem?_cons_succ, List.length_cons, List.length_nil, Option.some.injEq, exists_eq_left', D.bl.injEq, D.int.injEq, dPut, imm_dRows, immK_enc, keyD, hput, dAppend, imm, List.length_map, hlen, sizeLine_eq, true_and]
            refine ⟨by omega, by omega, ?_⟩
            refine hK _ ⟨done ++ [(r, s, l)], W ++ (gg ++ [(r, s, l)]), a, b, some (dW r), some (dRows s l), ?_, by rw [List.append_assoc]; exact h3, ⟨gg ++ [(r, s, l)], rfl⟩, by rw [← List.append_assoc]; exact T2, fun x hx => ?_⟩
            · rw [← List.append_assoc]
              simp
            · rw [← List.append_assoc, List.map_append]
              rcases List.mem_append.mp hx with hx | hx
              · obtain ⟨q1, q2⟩ := hg' x hx
                exact ⟨q1, List.mem_append_left _ q2⟩
              · rw [List.mem_singleton.mp hx]
                exact ⟨hr, by simp⟩
    · rw [if_neg hat]
      have hatE : at_ = W.length := by omega
      simp only [x_var, x_c, x_imm, x_op, x_un, x_cb, x_call, x_nil, x_cons, x_tup, x_lst, x_noPart, x_part, x_sl, x_test, x_and, x_or, x_not, x_yes, x_andV, x_orV, x_notV, x_if, x_it, x_gname, x_seq, x_skip, x_brk, x_cont, x_ret, x_retN, x_drop, x_ifS, x_set, x_setO, x_asg, x_sortSet, x_for, x_get, x_din, x_dnotin, List.set_cons_zero, List.set_cons_succ, List.getElem?_cons_zero, List.getElem?_cons_succ, List.length_cons, List.length_nil, Option.some.injEq, exists_eq_left', D.bl.injEq, D.int.injEq, fSortedK]
      have e1 : ((encW W).map (·.1)).mergeSort (fun j k => leD (kD j) (kD k)) = ((encW W).map (·.1)).mergeSort (fun j k => leD (kD j) (kD k)) := rfl
      have pm := List.mergeSort_perm ((encW W).map (·.1)) (fun j k => leD (kD j) (kD k))
      obtain ⟨rs, hrs, hmem⟩ : ∃ rs : List Wd, (((encW W).map (·.1)).mergeSort (fun j k => leD (kD j) (kD k))).map kD = rs.map dW ∧ ∀ r, r ∈ rs ↔ r ∈ W.map (·.1) := by
        have pm2 := pm.map kD
        rw [encW_keys] at pm2
        have inj : ∀ a b : Wd, dW a = dW b → a = b := fun a b h => by injection h
        obtain ⟨rs, q1, q2⟩ := back_map inj (rs := (((encW W).map (·.1)).mergeSort (fun j k => leD (kD j) (kD k))).map kD) (xs := W.map (·.1)) fun d hd => pm2.mem_iff.mp hd
        refine ⟨rs, q1, fun r => ⟨q2 r, fun h => ?_⟩⟩
        have : dW r ∈ (((encW W).map (·.1)).mergeSort (fun j k => leD (kD j) (kD k))).map kD := pm2.mem_iff.mpr (List.mem_map.mpr ⟨r, h, rfl⟩)
        rw [q1] at this
        exact (mem_enc inj).mp this
      rw [encW_keys, hrs]
      refine ⟨alk_words _, imm_words _, by decide, rA rs (closed_of T ndw hmem fun i e he => hcl i e (by rw [hatE]; exact (List.getElem?_eq_some_iff.mp he).1) he)⟩
  · rintro i xs δ ⟨i', a, b, h1, h2, rfl, hd⟩ KK hK
    obtain ⟨rfl, h3, h4⟩ := range_step h1
    simp only [x_var, x_c, x_imm, x_op, x_un, x_cb, x_call, x_nil, x_cons, x_tup, x_lst, x_noPart, x_part, x_sl, x_test, x_and, x_or, x_not, x_yes, x_andV, x_orV, x_notV, x_if, x_it, x_gname, x_seq, x_skip, x_brk, x_cont, x_ret, x_retN, x_drop, x_ifS, x_set, x_setO, x_asg, x_sortSet, x_for, x_get, x_din, x_dnotin, List.set_cons_zero, List.set_cons_succ, List.getElem?_cons_zero, List.getElem?_cons_succ, List.length_cons, List.length_nil, Option.some.injEq, exists_eq_left', D.bl.injEq, D.int.injEq, dRng1, rngD_nat]
    refine ⟨by omega, ?_⟩
    refine forL_inv dI (fun rest δ => ∃ (j : Nat) (b : Option D), rest = List.range' j (i - j) ∧ j ≤ i ∧ δ = [some (.tup (ws.map dW)), some (dI i), b, none, none, none, none, none] ∧ ∀ q, q < j → ws.getD i [] ≠ ws.getD q []) (List.range i) _ ⟨0, b, by rw [List.range_eq_range', Nat.sub_zero], Nat.zero_le _, rfl, fun q h => by omega⟩ ?_ ?_
    · rintro δ ⟨j, b, g1, g2, rfl, hj⟩
      have := range_end g1 g2
      subst this
      refine hK _ ⟨j + 1, some (dI j), b, h3, by omega, rfl, fun p q hp hq => ?_⟩
      rcases Nat.lt_or_ge p j with z | z
      · exact hd p q z hq
      · have : p = j := by omega
        subst this
        exact hj q hq
    · rintro j ys δ ⟨j', b, g1, g2, rfl, hj⟩ K2 hK2
      obtain ⟨rfl, g3, g4⟩ := range_step g1
      have a1 : atI (ws.map dW) (i : Int) = some (dW (ws.getD i [])) := atW h4
      have a2 : atI (ws.map dW) (j : Int) = some (dW (ws.getD j [])) := atW (by omega)
      simp only [x_var, x_c, x_imm, x_op, x_un, x_cb, x_call, x_nil, x_cons, x_tup, x_lst, x_noPart, x_part, x_sl, x_test, x_and, x_or, x_not, x_yes, x_andV, x_orV, x_notV, x_if, x_it, x_gname, x_seq, x_skip, x_brk, x_cont, x_ret, x_retN, x_drop, x_ifS, x_set, x_setO, x_asg, x_sortSet, x_for, x_get, x_din, x_dnotin, List.set_cons_zero, List.set_cons_succ, List.getElem?_cons_zero, List.getElem?_cons_succ, List.length_cons, List.length_nil, Option.some.injEq, exists_eq_left', D.bl.injEq, D.int.injEq, fSub, a1, a2, fEq, eqb_str, sc, Bool.true_or, true_and, decide_eq_true_eq, imm]
      by_cases c : ws.getD i [] = ws.getD j []
      · rw [if_pos c]
        refine ⟨by decide, by decide, by decide, by decide, ?_⟩
        refine rB [j] [i] ⟨by simp; omega, by simp; omega, ?_, ?_, by simp only [List.length_cons, List.length_nil]; omega, .inl (by simp)⟩
        · simp only [spl_cons, spl_nil, List.append_nil]
          exact c.symm
        · intro z
          injection z with z _
          omega
      · rw [if_neg c]
        refine hK2 _ ⟨j + 1, some (dI j), g3, by omega, rfl, fun q hq => ?_⟩
        rcases Nat.lt_or_ge q j with z | z
        · exact hj q z
        · have : q = j := by omega
          subst this
          exact c
end PD
set_option Elab.async false
set_option linter.all false
set_option maxRecDepth 100000
set_option maxHeartbeats 4000000
namespace PD
open PySem PySem.Spec PyProof.Rows L2
/-! ### rests, two_rows -/
def F_rests : DF := fun ds R => ∃ (ws : List Wd) (M : Nat), ds = [.tup (ws.map dW)] ∧ ws.length ≤ 100 ∧ (∀ w ∈ ws, w ≠ [] ∧ w.length ≤ M) ∧ M ≤ 1000 ∧ (sufs ws).length ≤ 500 ∧
  (∀ rs, Closed ws rs → R (.tup (rs.map dW))) ∧ ∀ s l, TwoRows ws M s l → R .non
def M_rests : Nat → Bool := fun i => ([] : List Nat).contains i
/- 0 words -/
def sem_rests : DS := (dRet (dOp fSub (dCall F_search_codes (dCons (dVar 0) dNil)) (dC (.int 0))))
theorem len_rests : ∀ ds R, F_rests ds R → ds.length = 1 := by
  rintro ds R ⟨_, _, rfl, _⟩
  rfl
theorem own_rests : ∀ ds R, F_rests ds R → ∀ i, i < ds.length → M_rests i = false := fun _ _ _ _ _ => rfl
theorem pure_rests : ∀ ds R, F_rests ds R → sem_rests { nx := fun _ => R .non, rt := R } (startD 1 ds) := by
  rintro ds R ⟨ws, M, rfl, hn, hM, hM2, hN, rA, rB⟩
  show sem_rests _ [some _]
  simp only [sem_rests, x_var, x_c, x_imm, x_op, x_un, x_cb, x_call, x_nil, x_cons, x_tup, x_lst, x_noPart, x_part, x_sl, x_test, x_and, x_or, x_not, x_yes, x_andV, x_orV, x_notV, x_if, x_it, x_gname, x_seq, x_skip, x_brk, x_cont, x_ret, x_retN, x_drop, x_ifS, x_set, x_setO, x_asg, x_sortSet, x_for, x_get, x_din, x_dnotin, List.set_cons_zero, List.set_cons_succ, List.getElem?_cons_zero, List.getElem?_cons_succ, List.length_cons, List.length_nil, Option.some.injEq, exists_eq_left', D.bl.injEq, D.int.injEq]
  refine ⟨ws, M, rfl, hn, hM, hM2, hN, fun rs h => ?_, fun s l h => ?_⟩
  · simp only [fSub, atI_0, x_var, x_c, x_imm, x_op, x_un, x_cb, x_call, x_nil, x_cons, x_tup, x_lst, x_noPart, x_part, x_sl, x_test, x_and, x_or, x_not, x_yes, x_andV, x_orV, x_notV, x_if, x_it, x_gname, x_seq, x_skip, x_brk, x_cont, x_ret, x_retN, x_drop, x_ifS, x_set, x_setO, x_asg, x_sortSet, x_for, x_get, x_din, x_dnotin, List.set_cons_zero, List.set_cons_succ, List.getElem?_cons_zero, List.getElem?_cons_succ, List.length_cons, List.length_nil, Option.some.injEq, exists_eq_left', D.bl.injEq, D.int.injEq]
    exact rA rs h
  · simp only [fSub, atI_0, x_var, x_c, x_imm, x_op, x_un, x_cb, x_call, x_nil, x_cons, x_tup, x_lst, x_noPart, x_part, x_sl, x_test, x_and, x_or, x_not, x_yes, x_andV, x_orV, x_notV, x_if, x_it, x_gname, x_seq, x_skip, x_brk, x_cont, x_ret, x_retN, x_drop, x_ifS, x_set, x_setO, x_asg, x_sortSet, x_for, x_get, x_din, x_dnotin, List.set_cons_zero, List.set_cons_succ, List.getElem?_cons_zero, List.getElem?_cons_succ, List.length_cons, List.length_nil, Option.some.injEq, exists_eq_left', D.bl.injEq, D.int.injEq]
    exact rB s l h
def F_two_rows : DF := fun ds R => ∃ (ws : List Wd) (M : Nat), ds = [.tup (ws.map dW)] ∧ ws.length ≤ 100 ∧ (∀ w ∈ ws, w ≠ [] ∧ w.length ≤ M) ∧ M ≤ 1000 ∧ (sufs ws).length ≤ 500 ∧
  (∀ rs, Closed ws rs → R .non) ∧ ∀ s l, TwoRows ws M s l → R (dRows s l)
def M_two_rows : Nat → Bool := fun i => ([] : List Nat).contains i
/- 0 words -/
def sem_two_rows : DS := (dRet (dOp fSub (dCall F_search_codes (dCons (dVar 0) dNil)) (dC (.int 1))))
theorem len_two_rows : ∀ ds R, F_two_rows ds R → ds.length = 1 := by
  rintro ds R ⟨_, _, rfl, _⟩
  rfl
theorem own_two_rows : ∀ ds R, F_two_rows ds R → ∀ i, i < ds.length → M_two_rows i = false := fun _ _ _ _ _ => rfl
theorem pure_two_rows : ∀ ds R, F_two_rows ds R → sem_two_rows { nx := fun _ => R .non, rt := R } (startD 1 ds) := by
  rintro ds R ⟨ws, M, rfl, hn, hM, hM2, hN, rA, rB⟩
  show sem_two_rows _ [some _]
  simp only [sem_two_rows, x_var, x_c, x_imm, x_op, x_un, x_cb, x_call, x_nil, x_cons, x_tup, x_lst, x_noPart, x_part, x_sl, x_test, x_and, x_or, x_not, x_yes, x_andV, x_orV, x_notV, x_if, x_it, x_gname, x_seq, x_skip, x_brk, x_cont, x_ret, x_retN, x_drop, x_ifS, x_set, x_setO, x_asg, x_sortSet, x_for, x_get, x_din, x_dnotin, List.set_cons_zero, List.set_cons_succ, List.getElem?_cons_zero, List.getElem?_cons_succ, List.length_cons, List.length_nil, Option.some.injEq, exists_eq_left', D.bl.injEq, D.int.injEq]
  refine ⟨ws, M, rfl, hn, hM, hM2, hN, fun rs h => ?_, fun s l h => ?_⟩
  · simp only [fSub, atI_1, x_var, x_c, x_imm, x_op, x_un, x_cb, x_call, x_nil, x_cons, x_tup, x_lst, x_noPart, x_part, x_sl, x_test, x_and, x_or, x_not, x_yes, x_andV, x_orV, x_notV, x_if, x_it, x_gname, x_seq, x_skip, x_brk, x_cont, x_ret, x_retN, x_drop, x_ifS, x_set, x_setO, x_asg, x_sortSet, x_for, x_get, x_din, x_dnotin, List.set_cons_zero, List.set_cons_succ, List.getElem?_cons_zero, List.getElem?_cons_succ, List.length_cons, List.length_nil, Option.some.injEq, exists_eq_left', D.bl.injEq, D.int.injEq]
    exact rA rs h
  · simp only [fSub, atI_1, x_var, x_c, x_imm, x_op, x_un, x_cb, x_call, x_nil, x_cons, x_tup, x_lst, x_noPart, x_part, x_sl, x_test, x_and, x_or, x_not, x_yes, x_andV, x_orV, x_notV, x_if, x_it, x_gname, x_seq, x_skip, x_brk, x_cont, x_ret, x_retN, x_drop, x_ifS, x_set, x_setO, x_asg, x_sortSet, x_for, x_get, x_din, x_dnotin, List.set_cons_zero, List.set_cons_succ, List.getElem?_cons_zero, List.getElem?_cons_succ, List.length_cons, List.length_nil, Option.some.injEq, exists_eq_left', D.bl.injEq, D.int.injEq]
    exact rB s l h
/-! ### outputs -/
abbrev Out := Nat × Wd × Nat
def dO (t : Out) : D := .tup [.int (t.1 : Int), .str t.2.1, .int (t.2.2 : Int)]
def kO (t : Out) : List Key := [.inl (t.1 : Int), .inr ⟨t.2.1.toArray⟩, .inl (t.2.2 : Int)]
theorem dO_inj {a b : Out} (h : dO a = dO b) : a = b := by
  obtain ⟨a1, a2, a3⟩ := a
  obtain ⟨b1, b2, b3⟩ := b
  simp only [dO, D.tup.injEq, List.cons.injEq, D.int.injEq, D.str.injEq, and_true] at h
  obtain ⟨h1, h2, h3⟩ := h
  simp [Int.ofNat.inj h1, h2, Int.ofNat.inj h3]
theorem kO_inj {a b : Out} (h : kO a = kO b) : a = b := by
  obtain ⟨a1, a2, a3⟩ := a
  obtain ⟨b1, b2, b3⟩ := b
  simp only [kO, List.cons.injEq, Sum.inl.injEq, Sum.inr.injEq, and_true] at h
  obtain ⟨h1, h2, h3⟩ := h
  have := congrArg (fun x : Str => x.cps.toList) h2
  have h2 : a2 = b2 := by simpa using this
  simp [Int.ofNat.inj h1, h2, Int.ofNat.inj h3]
theorem imm_dO (t : Out) : imm (dO t) = true := by simp [dO, imm, immL]
def encT (L : List Out) : List (List Key × D) := L.map fun t => (kO t, D.bl true)
theorem valT_enc (t : Out) : ∀ L : List Out, (valD (encT L) (kO t)).isSome = decide (t ∈ L)
  | [] => rfl
  | e :: L => by
    have ih := valT_enc t L
    unfold valD encT at *
    rw [List.map_cons, List.find?_cons]
    by_cases h : e = t
    · simp [h]
    · have h2 : ¬ kO e = kO t := fun z => h (kO_inj z)
      have h3 : ¬ t = e := fun z => h z.symm
      simp only [h2, decide_false]
      rw [ih]
      simp [h3]
theorem putT_new {L : List Out} {t : Out} (h : t ∉ L) : putD (encT L) (kO t) (.bl true) = encT (L ++ [t]) := by
  unfold putD
  rw [if_neg]
  · simp [encT]
  · intro z
    rw [List.any_eq_true] at z
    obtain ⟨x, hx, e⟩ := z
    obtain ⟨e0, he0, rfl⟩ := List.mem_map.mp hx
    have e : kO e0 = kO t := by simpa using e
    exact h (kO_inj e ▸ he0)
theorem putT_old {L : List Out} {t : Out} (h : t ∈ L) : putD (encT L) (kO t) (.bl true) = encT L := by
  unfold putD
  rw [if_pos]
  · unfold encT
    rw [List.map_map]
    apply List.map_congr_left
    intro x _
    simp only [Function.comp]
    split <;> rfl
  · rw [List.any_eq_true]
    exact ⟨(kO t, .bl true), List.mem_map.mpr ⟨t, h, rfl⟩, by simp⟩
theorem immT_enc (L : List Out) : immT (encT L) = true := by
  induction L with
  | nil => rfl
  | cons e L ih =>
    unfold encT at *
    rw [List.map_cons]
    simp only [immT, ih]
    rfl
/-- one step of the search -/
def OStep (m : Mch) (word : Wd) (most : Nat) (a b : Out) : Prop := ∃ (u v : Wd) (q : Nat), (a.2.2, u, v, q) ∈ m.sp ∧ b = (a.1 + u.length, a.2.1 ++ v, q) ∧ (word.drop a.1).take u.length = u ∧ (a.2.1 ++ v).length ≤ most
inductive OReach (m : Mch) (word : Wd) (most : Nat) : Out → Prop
  | start {q : Nat} : q ∈ m.st → OReach m word most (0, [], q)
  | step {a b : Out} : OReach m word most a → OStep m word most a b → OReach m word most b
def F_outputs : DF := fun ds R => ∃ (m : Mch) (word : Wd) (most : Nat) (Z : List Out) (Y : List Wd), ds = [dM m, .str word, .int (most : Int)] ∧ m.sp.length < 64 ∧ m.st.length ≤ 100 ∧ m.st.Nodup ∧ word.length ≤ 1000000 ∧ most ≤ 1000000 ∧ (∀ s ∈ m.sp, s.2.1.length ≤ 1000 ∧ s.2.2.1.length ≤ 1000) ∧
  (∀ t, OReach m word most t → t ∈ Z ∧ t.1 ≤ 1000000) ∧ Z.length ≤ 1000000 ∧ (∀ w q, OReach m word most (word.length, w, q) → q ∈ m.en → w ∈ Y) ∧ Y.length < 4000 ∧
  ∀ rs : List Wd, rs.Nodup → (∀ w, w ∈ rs ↔ ∃ q, OReach m word most (word.length, w, q) ∧ q ∈ m.en) → R (.lst (rs.map dW))
def M_outputs : Nat → Bool := fun i => ([3, 4] : List Nat).contains i
/- 0 machine, 1 word, 2 most, 3 found, 4 seen, 5 at, 6 i, 7 told, 8 p, 9 _, 10 first, 11 second, 12 q, 13 here -/
def sem_outputs : DS := (dSeq (dSetO 3 (dLc (dIt (dOp fSub (dVar 0) (dC (.int 1)))) (dgName 12) dYes (dTup (dCons (dC (.int 0)) (dCons (dC (.str [])) (dCons (dImm (dVar 12)) dNil)))) [12]))
  (dSeq (dSetO 4 (dDc true true (dIt (dVar 3)) (dgName 13) dYes (dVar 13) (dC (.bl true)) [13]))
  (dSeq (dSet 5 (dC (.int 0)))
  (dSeq (dWhile (dTest (dOp (fB0 fun i j => decide (i < j)) (dVar 5) (dCB fLen (dCons (dVar 3) dNil)))) (dSeq (dAsg (dgTup 3 (dgCons (dgName 6) (dgCons (dgName 7) (dgCons (dgName 8) dgNil)))) (dImm (dOp fSub (dVar 3) (dVar 5))))
  (dSeq (dFor (dIt (dCall F_steps_from (dCons (dVar 0) (dCons (dVar 8) dNil)))) (dgTup 4 (dgCons (dgName 9) (dgCons (dgName 10) (dgCons (dgName 11) (dgCons (dgName 12) dgNil))))) (dSeq (dSet 13 (dTup (dCons (dOp fAdd (dVar 6) (dCB fLen (dCons (dVar 10) dNil))) (dCons (dOp fAdd (dVar 7) (dVar 11)) (dCons (dImm (dVar 12)) dNil)))))
  (dIfS (dAnd (dTest (dOp fEq (dSl (dVar 1) (dPart (dVar 6)) (dPart (dOp fAdd (dVar 6) (dCB fLen (dCons (dVar 10) dNil))))) (dVar 10))) (dAnd (dTest (dOp (fB0 fun i j => decide (i ≤ j)) (dCB fLen (dCons (dOp fSub (dVar 13) (dC (.int 1))) dNil)) (dVar 2))) (dTest (dDNotIn (dVar 13) (dVar 4))))) (dSeq (dPut 4 (dVar 13) (dC (.bl true)))
  (dAppend 3 (dVar 13))) dSkip)))
  (dAug (fun i j => i + j) 5 (dC (.int 1))))))
  (dRet (dSc true (dIt (dVar 3)) (dgTup 3 (dgCons (dgName 6) (dgCons (dgName 7) (dgCons (dgName 12) dgNil)))) (dAnd (dTest (dOp fEq (dVar 6) (dCB fLen (dCons (dVar 1) dNil)))) (dTest (dOp fIn (dVar 12) (dOp fSub (dVar 0) (dC (.int 3)))))) (dVar 7) [6, 7, 12]))))))
theorem len_outputs : ∀ ds R, F_outputs ds R → ds.length = 3 := by
  rintro ds R ⟨_, _, _, _, _, rfl, _⟩
  rfl
theorem own_outputs : ∀ ds R, F_outputs ds R → ∀ i, i < ds.length → M_outputs i = false := by
  rintro ds R ⟨_, _, _, _, _, rfl, _⟩ i hi
  have : i < 3 := hi
  match i, this with
  | 0, _ => rfl
  | 1, _ => rfl
  | 2, _ => rfl
theorem dc_out {R : D → Prop} (δ : DEnv) (hδ : δ.length = 14) : ∀ (xs A : List Out), (A ++ xs).Nodup → (A ++ xs).length ≤ 1000 → R (.dT (encT (A ++ xs))) → dcD (dgName 13) dYes (dVar 13) (dC (.bl true)) δ (xs.map dO) (.dT (encT A)) R
  | [], A, _, _, h => by simpa [dcD] using h
  | x :: xs, A, nd, hl, h => by
    have hx : x ∉ A := fun z => by
      have := (List.nodup_append.mp nd).2.2 x z x (List.mem_cons_self ..)
      exact this rfl
    have e : A ++ x :: xs = (A ++ [x]) ++ xs := by simp
    rw [List.map_cons]
    unfold dcD
    have hg : (δ.set 13 (some (dO x)))[13]? = some (some (dO x)) := List.getElem?_set_self (by omega)
    have hlen : (encT A).length = A.length := by simp [encT]
    simp only [x_var, x_c, x_imm, x_op, x_un, x_cb, x_call, x_nil, x_cons, x_tup, x_lst, x_noPart, x_part, x_sl, x_test, x_and, x_or, x_not, x_yes, x_andV, x_orV, x_notV, x_if, x_it, x_gname, x_seq, x_skip, x_brk, x_cont, x_ret, x_retN, x_drop, x_ifS, x_set, x_setO, x_asg, x_sortSet, x_for, x_get, x_din, x_dnotin, List.set_cons_zero, List.set_cons_succ, List.getElem?_cons_zero, List.getElem?_cons_succ, List.length_cons, List.length_nil, Option.some.injEq, exists_eq_left', D.bl.injEq, D.int.injEq, hg, if_true]
    refine ⟨rfl, ?_, _, rfl, ?_⟩
    · show (encT A).length < sizeLine
      rw [hlen, sizeLine_eq]
      rw [List.length_append] at hl
      omega
    · have hp : putD (encT A) [Sum.inl (x.1 : Int), Sum.inr ⟨x.2.1.toArray⟩, Sum.inl (x.2.2 : Int)] (.bl true) = encT (A ++ [x]) := putT_new hx
      show dcD (dgName 13) dYes (dVar 13) (dC (D.bl true)) δ (List.map dO xs) (D.dT (putD (encT A) [Sum.inl (x.1 : Int), Sum.inr ⟨x.2.1.toArray⟩, Sum.inl (x.2.2 : Int)] (.bl true))) R
      rw [hp]
      exact dc_out δ hδ xs (A ++ [x]) (by rw [← e]; exact nd) (by rw [← e]; exact hl) (by rw [← e]; exact h)
theorem cut_eq (w : Wd) (i l : Nat) : cutL w (some (i : Int)) (some ((i : Int) + (l : Int))) = (w.drop i).take l := by
  have e : ((i : Int) + (l : Int)) = ((i + l : Nat) : Int) := by omega
  unfold cutL
  rw [e, HT.sIx_nat, HT.sIx_nat]
  rcases Nat.lt_or_ge w.length i with h | h
  · have h1 : min i w.length = w.length := by omega
    have h2 : min (i + l) w.length = w.length := by omega
    rw [h1, h2, List.drop_of_length_le (Nat.le_refl _), List.drop_of_length_le (by omega)]
    simp
  · have h1 : min i w.length = i := by omega
    rw [h1]
    rcases Nat.lt_or_ge (i + l) w.length with h3 | h3
    · have h4 : min (i + l) w.length - i = l := by omega
      rw [h4]
    · rw [List.take_of_length_le (by rw [List.length_drop]; omega), List.take_of_length_le (by rw [List.length_drop]; omega)]
theorem sc_out {m : Mch} {n : Nat} {R : List Key → Prop} (δ : DEnv) (hδ : δ.length = 14) (h0 : δ[0]? = some (some (dM m))) (word : Wd) (hw : word.length = n) (hn : n ≤ 1000000) (h1 : δ[1]? = some (some (.str word))) (Y : List Wd) (hY : Y.length < 4000) : ∀ (xs : List Out) (A : List Wd), A.Nodup → (∀ w ∈ A, w ∈ Y) →
    (∀ t ∈ xs, t.1 = n → t.2.2 ∈ m.en → t.2.1 ∈ Y) → (∀ B : List Wd, B.Nodup → (∀ w ∈ B, w ∈ Y) → (∀ w, w ∈ B ↔ w ∈ A ∨ ∃ t ∈ xs, t.1 = n ∧ t.2.2 ∈ m.en ∧ t.2.1 = w) → R (B.map kW)) →
    scD (dgTup 3 (dgCons (dgName 6) (dgCons (dgName 7) (dgCons (dgName 12) dgNil)))) (dAnd (dTest (dOp fEq (dVar 6) (dCB fLen (dCons (dVar 1) dNil)))) (dTest (dOp fIn (dVar 12) (dOp fSub (dVar 0) (dC (.int 3)))))) (dVar 7) δ (xs.map dO) (A.map kW) R
  | [], A, nd, hA, _, r => by
    unfold scD
    simp only [List.map_nil]
    exact r A nd hA fun w => by simp
  | x :: xs, A, nd, hA, hx, r => by
    obtain ⟨a, b, c⟩ := x
    rw [List.map_cons]
    unfold scD
    have hx' : ∀ t ∈ xs, t.1 = n → t.2.2 ∈ m.en → t.2.1 ∈ Y := fun t ht => hx t (List.mem_cons_of_mem _ ht)
    obtain ⟨d0, d1, d2, d3, d4, d5, d6, d7, d8, d9, d10, d11, d12, d13, rfl⟩ : ∃ a0 a1 a2 a3 a4 a5 a6 a7 a8 a9 a10 a11 a12 a13, δ = [a0, a1, a2, a3, a4, a5, a6, a7, a8, a9, a10, a11, a12, a13] := by
      match δ, hδ with
      | [a0, a1, a2, a3, a4, a5, a6, a7, a8, a9, a10, a11, a12, a13], _ => exact ⟨_, _, _, _, _, _, _, _, _, _, _, _, _, _, rfl⟩
    simp only [List.getElem?_cons_zero, List.getElem?_cons_succ, Option.some.injEq] at h0 h1
    subst h0 h1
    have e4 : mem (.int (c : Int)) (m.en.map dI) = decide (c ∈ m.en) := mem_ints c m.en
    have e5 : (decide ((a : Int) = (word.length : Int))) = decide (a = n) := by
      rw [Bool.eq_iff_iff, decide_eq_true_eq, decide_eq_true_eq]
      omega
    have hlt : A.length < 4000 := Nat.lt_of_le_of_lt (nodup_len A Y nd hA) hY
    have skip : ¬ (a = n ∧ c ∈ m.en) → scD (dgTup 3 (dgCons (dgName 6) (dgCons (dgName 7) (dgCons (dgName 12) dgNil)))) (dAnd (dTest (dOp fEq (dVar 6) (dCB fLen (dCons (dVar 1) dNil)))) (dTest (dOp fIn (dVar 12) (dOp fSub (dVar 0) (dC (.int 3)))))) (dVar 7) [some (dM m), some (.str word), d2, d3, d4, d5, d6, d7, d8, d9, d10, d11, d12, d13] (xs.map dO) (A.map kW) R := fun hc =>
      sc_out _ rfl rfl word hw hn rfl Y hY xs A nd hA hx' fun B b1 b2 b3 => r B b1 b2 fun w => by
        rw [b3 w]
        constructor
        · rintro (h | ⟨t, ht, h⟩)
          · exact .inl h
          · exact .inr ⟨t, List.mem_cons_of_mem _ ht, h⟩
        · rintro (h | ⟨t, ht, h⟩)
          · exact .inl h
          · rcases List.mem_cons.mp ht with rfl | ht
            · exact absurd ⟨h.1, h.2.1⟩ hc
            · exact .inr ⟨t, ht, h⟩
    simp only [dO, dgTup, dgCons, dgNil, x_var, x_c, x_imm, x_op, x_un, x_cb, x_call, x_nil, x_cons, x_tup, x_lst, x_noPart, x_part, x_sl, x_test, x_and, x_or, x_not, x_yes, x_andV, x_orV, x_notV, x_if, x_it, x_gname, x_seq, x_skip, x_brk, x_cont, x_ret, x_retN, x_drop, x_ifS, x_set, x_setO, x_asg, x_sortSet, x_for, x_get, x_din, x_dnotin, List.set_cons_zero, List.set_cons_succ, List.getElem?_cons_zero, List.getElem?_cons_succ, List.length_cons, List.length_nil, Option.some.injEq, exists_eq_left', D.bl.injEq, D.int.injEq, fEq, fLen, eqb_int, e5, sc, Bool.true_or, true_and, decide_eq_true_eq, sub3, fIn, fInB, fl_ints, fl, e4, sizeLine_eq]
    refine ⟨by omega, ?_⟩
    by_cases c1 : a = n
    · rw [if_pos c1]
      by_cases c2 : c ∈ m.en
      · simp only [c2, decide_true, if_true, keyD]
        refine ⟨kW b, rfl, by rw [List.length_map]; omega, ?_⟩
        have hb : b ∈ Y := hx (a, b, c) (List.mem_cons_self ..) c1 c2
        have eA : addK (A.map kW) (kW b) = (if b ∈ A then A else A ++ [b]).map kW := by
          unfold addK
          by_cases hin : b ∈ A
          · rw [if_pos hin, if_pos]
            rw [any_key]
            exact List.mem_map.mpr ⟨b, hin, rfl⟩
          · rw [if_neg hin, if_neg, List.map_append]
            · rfl
            · rw [any_key]
              intro z
              obtain ⟨y, hy, e⟩ := List.mem_map.mp z
              exact hin (kW_inj e ▸ hy)
        rw [eA]
        refine sc_out _ rfl rfl word hw hn rfl Y hY xs _ ?_ ?_ hx' fun B b1 b2 b3 => r B b1 b2 fun w => ?_
        · split
          · exact nd
          · next hin =>
            refine List.nodup_append.mpr ⟨nd, by simp, fun x hx y hy e => ?_⟩
            rw [List.mem_singleton.mp hy] at e
            exact hin (e ▸ hx)
        · intro w hw
          split at hw
          · exact hA w hw
          · rcases List.mem_append.mp hw with hw | hw
            · exact hA w hw
            · rw [List.mem_singleton.mp hw]; exact hb
        · rw [b3 w]
          have hmem : w ∈ (if b ∈ A then A else A ++ [b]) ↔ w ∈ A ∨ w = b := by
            split
            · next hin =>
              exact ⟨.inl, fun h => h.elim id fun e => by rw [e]; exact hin⟩
            · simp
          rw [hmem]
          constructor
          · rintro ((h | h) | ⟨t, ht, h⟩)
            · exact .inl h
            · exact .inr ⟨(a, b, c), List.mem_cons_self .., c1, c2, h.symm⟩
            · exact .inr ⟨t, List.mem_cons_of_mem _ ht, h⟩
          · rintro (h | ⟨t, ht, h⟩)
            · exact .inl (.inl h)
            · rcases List.mem_cons.mp ht with rfl | ht
              · exact .inl (.inr h.2.2.symm)
              · exact .inr ⟨t, ht, h⟩
      · simp only [c2, decide_false]
        exact skip fun z => c2 z.2
    · rw [if_neg c1]
      exact skip fun z => c1 z.1
theorem imm_outs (L : List Out) : immL (L.map dO) = true := immL_map fun t _ => imm_dO t
theorem pure_outputs : ∀ ds R, F_outputs ds R → sem_outputs { nx := fun _ => R .non, rt := R } (startD 14 ds) := by
  rintro ds R ⟨m, word, most, Z, Y, rfl, l1, l2, nst, l3, l4, hs, hZ, hZl, hY, hYl, r⟩
  show sem_outputs _ [some _, some _, some _, none, none, none, none, none, none, none, none, none, none, none]
  simp only [sem_outputs, x_var, x_c, x_imm, x_op, x_un, x_cb, x_call, x_nil, x_cons, x_tup, x_lst, x_noPart, x_part, x_sl, x_test, x_and, x_or, x_not, x_yes, x_andV, x_orV, x_notV, x_if, x_it, x_gname, x_seq, x_skip, x_brk, x_cont, x_ret, x_retN, x_drop, x_ifS, x_set, x_setO, x_asg, x_sortSet, x_for, x_get, x_din, x_dnotin, List.set_cons_zero, List.set_cons_succ, List.getElem?_cons_zero, List.getElem?_cons_succ, List.length_cons, List.length_nil, Option.some.injEq, exists_eq_left', D.bl.injEq, D.int.injEq, sub1, fItems, dLcZ, wipeD, List.length_map]
  refine ⟨by rw [sizeLine_eq]; omega, by simp, ?_⟩
  refine lcD_m dI (fun q => dO (0, [], q)) m.st (fun q hq Q q' => ?_) ?_
  · simp only [x_var, x_c, x_imm, x_op, x_un, x_cb, x_call, x_nil, x_cons, x_tup, x_lst, x_noPart, x_part, x_sl, x_test, x_and, x_or, x_not, x_yes, x_andV, x_orV, x_notV, x_if, x_it, x_gname, x_seq, x_skip, x_brk, x_cont, x_ret, x_retN, x_drop, x_ifS, x_set, x_setO, x_asg, x_sortSet, x_for, x_get, x_din, x_dnotin, List.set_cons_zero, List.set_cons_succ, List.getElem?_cons_zero, List.getElem?_cons_succ, List.length_cons, List.length_nil, Option.some.injEq, exists_eq_left', D.bl.injEq, D.int.injEq, imm, true_and]
    exact ⟨by rw [sizeLine_eq]; omega, q'⟩
  obtain ⟨L0, eL⟩ : ∃ L0 : List Out, L0 = m.st.map fun q => (0, [], q) := ⟨_, rfl⟩
  have eL2 : (m.st.map fun q => dO (0, [], q)) = L0.map dO := by rw [eL, List.map_map]; rfl
  have nd0 : L0.Nodup := by
    rw [eL]
    exact List.pairwise_map.mpr (nst.imp fun ne e => ne (by injection e with _ e; injection e))
  have len0 : L0.length ≤ 100 := by rw [eL, List.length_map]; exact l2
  have mem0 : ∀ t, t ∈ L0 ↔ ∃ q ∈ m.st, t = (0, [], q) := fun t => by
    rw [eL, List.mem_map]
    exact ⟨fun ⟨q, h1, h2⟩ => ⟨q, h1, h2.symm⟩, fun ⟨q, h1, h2⟩ => ⟨q, h1, h2.symm⟩⟩
  rw [eL2]
  simp only [flatD, imm_outs, x_var, x_c, x_imm, x_op, x_un, x_cb, x_call, x_nil, x_cons, x_tup, x_lst, x_noPart, x_part, x_sl, x_test, x_and, x_or, x_not, x_yes, x_andV, x_orV, x_notV, x_if, x_it, x_gname, x_seq, x_skip, x_brk, x_cont, x_ret, x_retN, x_drop, x_ifS, x_set, x_setO, x_asg, x_sortSet, x_for, x_get, x_din, x_dnotin, List.set_cons_zero, List.set_cons_succ, List.getElem?_cons_zero, List.getElem?_cons_succ, List.length_cons, List.length_nil, Option.some.injEq, exists_eq_left', D.bl.injEq, D.int.injEq, dDc, fItems, List.length_map, wipeD]
  refine ⟨trivial, by decide, by rw [sizeLine_eq]; omega, fun _ => trivial, ?_⟩
  have dc := dc_out (R := fun d => flatD d = true ∧ 4 < 14 ∧ dSeq (dSet 5 (dC (.int 0))) (dSeq (dWhile (dTest (dOp (fB0 fun i j => decide (i < j)) (dVar 5) (dCB fLen (dCons (dVar 3) dNil)))) (dSeq (dAsg (dgTup 3 (dgCons (dgName 6) (dgCons (dgName 7) (dgCons (dgName 8) dgNil)))) (dImm (dOp fSub (dVar 3) (dVar 5)))) (dSeq (dFor (dIt (dCall F_steps_from (dCons (dVar 0) (dCons (dVar 8) dNil)))) (dgTup 4 (dgCons (dgName 9) (dgCons (dgName 10) (dgCons (dgName 11) (dgCons (dgName 12) dgNil))))) (dSeq (dSet 13 (dTup (dCons (dOp fAdd (dVar 6) (dCB fLen (dCons (dVar 10) dNil))) (dCons (dOp fAdd (dVar 7) (dVar 11)) (dCons (dImm (dVar 12)) dNil))))) (dIfS (dAnd (dTest (dOp fEq (dSl (dVar 1) (dPart (dVar 6)) (dPart (dOp fAdd (dVar 6) (dCB fLen (dCons (dVar 10) dNil))))) (dVar 10))) (dAnd (dTest (dOp (fB0 fun i j => decide (i ≤ j)) (dCB fLen (dCons (dOp fSub (dVar 13) (dC (.int 1))) dNil)) (dVar 2))) (dTest (dDNotIn (dVar 13) (dVar 4))))) (dSeq (dPut 4 (dVar 13) (dC (.bl true))) (dAppend 3 (dVar 13))) dSkip))) (dAug (fun i j => i + j) 5 (dC (.int 1)))))) (dRet (dSc true (dIt (dVar 3)) (dgTup 3 (dgCons (dgName 6) (dgCons (dgName 7) (dgCons (dgName 12) dgNil)))) (dAnd (dTest (dOp fEq (dVar 6) (dCB fLen (dCons (dVar 1) dNil)))) (dTest (dOp fIn (dVar 12) (dOp fSub (dVar 0) (dC (.int 3)))))) (dVar 7) [6, 7, 12]))) { nx := fun _ => R .non, rt := R } [some (dM m), some (.str word), some (.int (most : Int)), some (.lst (L0.map dO)), some d, none, none, none, none, none, none, none, none, none]) [some (dM m), some (.str word), some (.int (most : Int)), some (.lst (L0.map dO)), none, none, none, none, none, none, none, none, none, none] rfl L0 [] nd0 (by simp; omega)
  refine dc ?_
  rw [List.nil_append]
  refine ⟨immT_enc L0, by decide, ?_⟩
  simp only [x_var, x_c, x_imm, x_op, x_un, x_cb, x_call, x_nil, x_cons, x_tup, x_lst, x_noPart, x_part, x_sl, x_test, x_and, x_or, x_not, x_yes, x_andV, x_orV, x_notV, x_if, x_it, x_gname, x_seq, x_skip, x_brk, x_cont, x_ret, x_retN, x_drop, x_ifS, x_set, x_setO, x_asg, x_sortSet, x_for, x_get, x_din, x_dnotin, List.set_cons_zero, List.set_cons_succ, List.getElem?_cons_zero, List.getElem?_cons_succ, List.length_cons, List.length_nil, Option.some.injEq, exists_eq_left', D.bl.injEq, D.int.injEq]
  refine ⟨fun k δ => ∃ (at_ : Nat) (F : List Out) (a b c d e f g h i : Option D), k = 1000000 - at_ ∧ at_ ≤ F.length ∧ δ = [some (dM m), some (.str word), some (.int (most : Int)), some (.lst (F.map dO)), some (.dT (encT F)), some (.int (at_ : Int)), a, b, c, d, e, f, g, h] ∧ F.Nodup ∧ (∀ t ∈ F, OReach m word most t) ∧ (∀ q ∈ m.st, (0, [], q) ∈ F) ∧
    (∀ (i : Nat) (t : Out), i < at_ → F[i]? = some t → ∀ b, OStep m word most t b → b ∈ F), ⟨_, 0, L0, none, none, none, none, none, none, none, none, none, rfl, Nat.zero_le _, rfl, nd0, fun t ht => by
      obtain ⟨q, hq, rfl⟩ := (mem0 t).mp ht
      exact .start hq, fun q hq => (mem0 _).mpr ⟨q, hq, rfl⟩, fun i t h => by omega⟩, ?_⟩
  rintro k δ ⟨at_, F, a, b, c, d, e, f, g, h, _, rfl, hle, rfl, nd, hre, hst, hcl⟩
  have hFl : ∀ {F : List Out}, F.Nodup → (∀ t ∈ F, OReach m word most t) → F.length ≤ 1000000 := fun {F} n1 n2 => Nat.le_trans (nodup_len F Z n1 fun t ht => (hZ t (n2 t ht)).1) hZl
  have hF := hFl nd hre
  simp only [x_var, x_c, x_imm, x_op, x_un, x_cb, x_call, x_nil, x_cons, x_tup, x_lst, x_noPart, x_part, x_sl, x_test, x_and, x_or, x_not, x_yes, x_andV, x_orV, x_notV, x_if, x_it, x_gname, x_seq, x_skip, x_brk, x_cont, x_ret, x_retN, x_drop, x_ifS, x_set, x_setO, x_asg, x_sortSet, x_for, x_get, x_din, x_dnotin, List.set_cons_zero, List.set_cons_succ, List.getElem?_cons_zero, List.getElem?_cons_succ, List.length_cons, List.length_nil, Option.some.injEq, exists_eq_left', D.bl.injEq, D.int.injEq, fLen, fB0, List.length_map, Int.ofNat_lt, decide_eq_true_eq]
  by_cases hat : at_ < F.length
  · rw [if_pos hat]
    have hek : F[at_]? = some F[at_] := List.getElem?_eq_getElem hat
    obtain ⟨t, eT⟩ : ∃ t, t = F[at_] := ⟨_, rfl⟩
    rw [← eT] at hek
    have ht := hre t (List.mem_of_getElem? hek)
    have a1 : atI (F.map dO) (at_ : Int) = some (dO t) := by
      rw [atI_nat, List.getElem?_map, hek]
      rfl
    obtain ⟨ti, tw, tq⟩ := t
    have hti := (hZ _ ht).2
    simp only [x_var, x_c, x_imm, x_op, x_un, x_cb, x_call, x_nil, x_cons, x_tup, x_lst, x_noPart, x_part, x_sl, x_test, x_and, x_or, x_not, x_yes, x_andV, x_orV, x_notV, x_if, x_it, x_gname, x_seq, x_skip, x_brk, x_cont, x_ret, x_retN, x_drop, x_ifS, x_set, x_setO, x_asg, x_sortSet, x_for, x_get, x_din, x_dnotin, List.set_cons_zero, List.set_cons_succ, List.getElem?_cons_zero, List.getElem?_cons_succ, List.length_cons, List.length_nil, Option.some.injEq, exists_eq_left', D.bl.injEq, D.int.injEq, fSub, a1, imm_dO, dO, dgTup, dgCons, dgNil, true_and]
    refine ⟨imm_dO (ti, tw, tq), m, tq, rfl, l1, ?_⟩
    simp only [fItems]
    refine forL_inv dS (fun rest δ => ∃ (done : List Stp) (F' : List Out) (d e f g h : Option D), δ = [some (dM m), some (.str word), some (.int (most : Int)), some (.lst (F'.map dO)), some (.dT (encT F')), some (.int (at_ : Int)), some (.int (ti : Int)), some (.str tw), some (.int (tq : Int)), d, e, f, g, h] ∧ done ++ rest = m.sp.filter (fun s => s.1 == tq) ∧ (∃ z, F' = F ++ z) ∧ F'.Nodup ∧ (∀ t ∈ F', OReach m word most t) ∧
      ∀ s ∈ done, (word.drop ti).take s.2.1.length = s.2.1 → (tw ++ s.2.2.1).length ≤ most → (ti + s.2.1.length, tw ++ s.2.2.1, s.2.2.2) ∈ F') _ _ ⟨[], F, d, e, f, g, h, rfl, rfl, ⟨[], by simp⟩, nd, hre, fun s hs => nomatch hs⟩ ?_ ?_
    · rintro δ ⟨done, F', d, e, f, g, h, rfl, h1, ⟨z, rfl⟩, nd', hre', hd⟩
      rw [List.append_nil] at h1
      subst h1
      simp only [x_var, x_c, x_imm, x_op, x_un, x_cb, x_call, x_nil, x_cons, x_tup, x_lst, x_noPart, x_part, x_sl, x_test, x_and, x_or, x_not, x_yes, x_andV, x_orV, x_notV, x_if, x_it, x_gname, x_seq, x_skip, x_brk, x_cont, x_ret, x_retN, x_drop, x_ifS, x_set, x_setO, x_asg, x_sortSet, x_for, x_get, x_din, x_dnotin, List.set_cons_zero, List.set_cons_succ, List.getElem?_cons_zero, List.getElem?_cons_succ, List.length_cons, List.length_nil, Option.some.injEq, exists_eq_left', D.bl.injEq, D.int.injEq, dAug]
      refine ⟨1000000 - (at_ + 1), by omega, at_ + 1, F ++ z, some (.int (ti : Int)), some (.str tw), some (.int (tq : Int)), d, e, f, g, h, none, rfl, by rw [List.length_append]; omega, by simp, nd', hre', fun q hq => List.mem_append_left _ (hst q hq), fun i t' hi ht' b' hb' => ?_⟩
      have hil : i < F.length := by omega
      rw [List.getElem?_append_left hil] at ht'
      rcases Nat.lt_or_ge i at_ with q | q
      · exact List.mem_append_left _ (hcl i t' q ht' b' hb')
      · have : i = at_ := by omega
        rw [this, hek] at ht'
        cases ht'
        obtain ⟨u, v, q', g1, rfl, g2, g3⟩ := hb'
        exact hd (tq, u, v, q') (List.mem_filter.mpr ⟨g1, by simp⟩) g2 g3
    · rintro s rest δ ⟨done, F', d, e, f, g, h, rfl, h1, ⟨z, rfl⟩, nd', hre', hd⟩ KK hK
      have hsm : s ∈ m.sp.filter (fun s => s.1 == tq) := by rw [← h1]; simp
      obtain ⟨hsp, hp⟩ := List.mem_filter.mp hsm
      obtain ⟨p, u, v, q⟩ := s
      have hp : p = tq := by simpa using hp
      subst hp
      obtain ⟨lu, lv⟩ := hs _ hsp
      have lu : u.length ≤ 1000 := lu
      have lv : v.length ≤ 1000 := lv
      have ltw : tw.length ≤ most := by
        cases ht with
        | start _ => exact Nat.zero_le _
        | step _ hst => obtain ⟨_, _, _, _, e2, _, e3⟩ := hst; injection e2 with _ e2; injection e2 with e2 _; rw [e2]; exact e3
      have ec : cutL word (some (ti : Int)) (some ((ti : Int) + (u.length : Int))) = (word.drop ti).take u.length := cut_eq word ti u.length
      have ei : ((ti : Int) + (u.length : Int)) = ((ti + u.length : Nat) : Int) := by omega
      have fin : ∀ {h : Option D}, (((word.drop ti).take u.length = u ∧ (tw ++ v).length ≤ most) → (ti + u.length, tw ++ v, q) ∈ F ++ z) → KK [some (dM m), some (.str word), some (.int (most : Int)), some (.lst ((F ++ z).map dO)), some (.dT (encT (F ++ z))), some (.int (at_ : Int)), some (.int (ti : Int)), some (.str tw), some (.int (p : Int)), some (.int (p : Int)), some (.str u), some (.str v), some (.int (q : Int)), h] := fun {h} hc => by
        refine hK _ ⟨done ++ [(p, u, v, q)], F ++ z, some (.int (p : Int)), some (.str u), some (.str v), some (.int (q : Int)), h, rfl, by rw [List.append_assoc]; exact h1, ⟨z, rfl⟩, nd', hre', fun s hs' g1 g2 => ?_⟩
        rcases List.mem_append.mp hs' with hs' | hs'
        · exact hd s hs' g1 g2
        · rw [List.mem_singleton.mp hs'] at g1 g2 ⊢
          exact hc ⟨g1, g2⟩
      have lmost : ((tw ++ v).length : Int) ≤ (most : Int) ↔ (tw ++ v).length ≤ most := by omega
      simp only [dS, dgTup, dgCons, dgNil, x_var, x_c, x_imm, x_op, x_un, x_cb, x_call, x_nil, x_cons, x_tup, x_lst, x_noPart, x_part, x_sl, x_test, x_and, x_or, x_not, x_yes, x_andV, x_orV, x_notV, x_if, x_it, x_gname, x_seq, x_skip, x_brk, x_cont, x_ret, x_retN, x_drop, x_ifS, x_set, x_setO, x_asg, x_sortSet, x_for, x_get, x_din, x_dnotin, List.set_cons_zero, List.set_cons_succ, List.getElem?_cons_zero, List.getElem?_cons_succ, List.length_cons, List.length_nil, Option.some.injEq, exists_eq_left', D.bl.injEq, D.int.injEq, fAdd, fLen, imm, fSub, fSl, ec, fEq, eqb_str, sc, Bool.true_or, true_and, decide_eq_true_eq, fB0, atI_1, sizeLine_eq, fGet, tkeyD, keysD, keyD]
      refine ⟨by omega, by omega, by decide, by omega, by omega, ?_⟩
      by_cases c1 : (word.drop ti).take u.length = u
      · rw [if_pos c1]
        refine ⟨by rw [List.length_append]; omega, ?_⟩
        by_cases c2 : (tw ++ v).length ≤ most
        · rw [if_pos (lmost.mpr c2)]
          have ek : ([Sum.inl ((ti : Int) + (u.length : Int)), Sum.inr ⟨(tw ++ v).toArray⟩, Sum.inl (q : Int)] : List Key) = kO (ti + u.length, tw ++ v, q) := by simp [kO]
          have eo : D.tup [D.int ((ti : Int) + (u.length : Int)), D.str (tw ++ v), D.int (q : Int)] = dO (ti + u.length, tw ++ v, q) := by simp [dO]
          have hv := valT_enc (ti + u.length, tw ++ v, q) (F ++ z)
          rw [ek, hv]
          by_cases c3 : (ti + u.length, tw ++ v, q) ∈ F ++ z
          · simp only [c3, decide_true, Bool.not_true]
            exact fin fun _ => c3
          · simp only [c3, decide_false, Bool.not_false, if_true]
            have hF2 := hFl nd' hre'
            have hlen : (encT (F ++ z)).length = (F ++ z).length := by simp [encT]
            have tk : tkeyD (dO (ti + u.length, tw ++ v, q)) = some (kO (ti + u.length, tw ++ v, q)) := rfl
            rw [eo]
            simp only [x_var, x_c, x_imm, x_op, x_un, x_cb, x_call, x_nil, x_cons, x_tup, x_lst, x_noPart, x_part, x_sl, x_test, x_and, x_or, x_not, x_yes, x_andV, x_orV, x_notV, x_if, x_it, x_gname, x_seq, x_skip, x_brk, x_cont, x_ret, x_retN, x_drop, x_ifS, x_set, x_setO, x_asg, x_sortSet, x_for, x_get, x_din, x_dnotin, List.set_cons_zero, List.set_cons_succ, List.getElem?_cons_zero, List.getElem?_cons_succ, List.length_cons, List.length_nil, Option.some.injEq, exists_eq_left', D.bl.injEq, D.int.injEq, dPut, imm, immT_enc, tk, hlen, putT_new c3, dAppend, imm_dO, List.length_map, sizeLine_eq, true_and]
            refine ⟨by omega, by omega, ?_⟩
            have hnew : OReach m word most (ti + u.length, tw ++ v, q) := .step ht ⟨u, v, q, hsp, rfl, c1, c2⟩
            refine hK _ ⟨done ++ [(p, u, v, q)], F ++ (z ++ [(ti + u.length, tw ++ v, q)]), some (.int (p : Int)), some (.str u), some (.str v), some (.int (q : Int)), some (dO (ti + u.length, tw ++ v, q)), ?_, by rw [List.append_assoc]; exact h1, ⟨z ++ [(ti + u.length, tw ++ v, q)], rfl⟩, ?_, ?_, ?_⟩
            · rw [← List.append_assoc, List.map_append (l₂ := [(ti + u.length, tw ++ v, q)])]
              rfl
            · rw [← List.append_assoc]
              refine List.nodup_append.mpr ⟨nd', by simp, fun x hx y hy e => ?_⟩
              rw [List.mem_singleton.mp hy] at e
              exact c3 (e ▸ hx)
            · intro x hx
              rw [← List.append_assoc] at hx
              rcases List.mem_append.mp hx with hx | hx
              · exact hre' x hx
              · rw [List.mem_singleton.mp hx]; exact hnew
            · intro s hs' g1 g2
              rw [← List.append_assoc]
              rcases List.mem_append.mp hs' with hs' | hs'
              · exact List.mem_append_left _ (hd s hs' g1 g2)
              · rw [List.mem_singleton.mp hs']
                exact List.mem_append_right _ (by simp)
        · rw [if_neg (fun z => c2 (lmost.mp z))]
          exact fin fun z => absurd z.2 c2
      · rw [if_neg c1]
        exact fin fun z => absurd z.1 c1
  · rw [if_neg hat]
    have hatE : at_ = F.length := by omega
    have all : ∀ t, OReach m word most t → t ∈ F := fun t ht => by
      induction ht with
      | start hq => exact hst _ hq
      | step _ hs ih =>
        obtain ⟨i, hi, e⟩ := List.getElem_of_mem ih
        exact hcl i _ (by omega) (by rw [List.getElem?_eq_getElem hi, e]) _ hs
    simp only [x_var, x_c, x_imm, x_op, x_un, x_cb, x_call, x_nil, x_cons, x_tup, x_lst, x_noPart, x_part, x_sl, x_test, x_and, x_or, x_not, x_yes, x_andV, x_orV, x_notV, x_if, x_it, x_gname, x_seq, x_skip, x_brk, x_cont, x_ret, x_retN, x_drop, x_ifS, x_set, x_setO, x_asg, x_sortSet, x_for, x_get, x_din, x_dnotin, List.set_cons_zero, List.set_cons_succ, List.getElem?_cons_zero, List.getElem?_cons_succ, List.length_cons, List.length_nil, Option.some.injEq, exists_eq_left', D.bl.injEq, D.int.injEq, dSc, fItems, imm_outs, List.length_map, wipeD]
    refine ⟨by rw [sizeLine_eq]; omega, fun _ => trivial, ?_⟩
    refine sc_out (n := word.length) _ rfl rfl word rfl l3 rfl Y hYl F [] List.nodup_nil (fun w hw => nomatch hw) (fun t ht e1 e2 => ?_) fun B b1 b2 b3 => ?_
    · obtain ⟨x, y, q⟩ := t
      have e1 : x = word.length := e1
      subst e1
      exact hY y q (hre _ ht) e2
    · have hBl : B.length < 4000 := Nat.lt_of_le_of_lt (nodup_len B Y b1 b2) hYl
      have eB : (B.map kW).map kD = B.map dW := by rw [List.map_map]; rfl
      refine ⟨by rw [eB]; exact alkD_map alk_W B, by rw [List.length_map]; omega, fun rs n1 n2 n3 => ?_⟩
      have inj : ∀ a b : Wd, dW a = dW b → a = b := fun a b h => by injection h
      have sub : ∀ d ∈ rs.map kD, d ∈ B.map dW := fun d hd => by
        obtain ⟨k, hk, rfl⟩ := List.mem_map.mp hd
        rw [← eB]
        exact List.mem_map.mpr ⟨k, (n2 k).mp hk, rfl⟩
      obtain ⟨ys, q1, q2⟩ := back_map inj sub
      rw [q1]
      have nd2 : (rs.map kD).Nodup := List.pairwise_map.mpr (n1.imp fun ne e => ne (kD_inj e))
      rw [q1] at nd2
      refine r ys (nodup_enc nd2) fun w => ?_
      have m1 : w ∈ ys ↔ w ∈ B := by
        constructor
        · exact q2 w
        · intro hw
          have : kD (kW w) ∈ rs.map kD := List.mem_map.mpr ⟨kW w, (n2 (kW w)).mpr (List.mem_map.mpr ⟨w, hw, rfl⟩), rfl⟩
          rw [q1] at this
          exact (mem_enc inj).mp this
      rw [m1, b3 w]
      constructor
      · rintro (z | ⟨⟨x, y, q⟩, ht, e1, e2, e3⟩)
        · exact nomatch z
        · have e1 : x = word.length := e1
          have e3 : y = w := e3
          subst e1 e3
          exact ⟨q, hre _ ht, e2⟩
      · rintro ⟨q, hr, hq⟩
        exact .inr ⟨_, all _ hr, rfl, hq, rfl⟩
end PD
set_option Elab.async false
set_option linter.all false
set_option maxRecDepth 100000
set_option maxHeartbeats 4000000
namespace PD
open PySem PySem.Spec PyProof.Rows L2
/-! ### _law_rows_of -/
def rowsL (ws : List Wd) : Nat → List Nat
  | 0 => [1]
  | n + 1 => rowsL ws n ++ [((ws.filter fun w => decide (w.length ≤ n + 1)).map fun w => (rowsL ws n).getD (n + 1 - w.length) 0).sum]
theorem rowsL_len (ws : List Wd) : ∀ n, (rowsL ws n).length = n + 1
  | 0 => rfl
  | n + 1 => by
    unfold rowsL
    rw [List.length_append, rowsL_len ws n]
    rfl
def F__law_rows_of_k38 : DF := fun ds R => ∃ (ws : List Wd) (most : Nat), ds = [.tup (ws.map dW), .int (most : Int)] ∧ ws.length ≤ 100 ∧ (∀ w ∈ ws, w ≠ [] ∧ w.length ≤ 1000) ∧ most ≤ 1000 ∧ R (.lst ((rowsL ws most).map dI))
def M__law_rows_of_k38 : Nat → Bool := fun i => ([2] : List Nat).contains i
/- 0 words, 1 most, 2 found, 3 length, 4 word -/
def sem__law_rows_of_k38 : DS := (dSeq (dSetO 2 (dLst (dCons (dC (.int 1)) dNil)))
  (dSeq (dFor (dRng2 (dCons (dC (.int 1)) (dCons (dOp fAdd (dVar 1) (dC (.int 1))) dNil))) (dgName 3) (dAppend 2 (dCB fSum (dCons (dLc (dIt (dVar 0)) (dgName 4) (dTest (dOp (fB0 fun i j => decide (i ≤ j)) (dCB fLen (dCons (dVar 4) dNil)) (dVar 3))) (dImm (dOp fSub (dVar 2) (dOp (fI0 fun i j => i - j) (dVar 3) (dCB fLen (dCons (dVar 4) dNil))))) [4]) dNil))))
  (dRetO 2)))
theorem len__law_rows_of_k38 : ∀ ds R, F__law_rows_of_k38 ds R → ds.length = 2 := by
  rintro ds R ⟨_, _, rfl, _⟩
  rfl
theorem own__law_rows_of_k38 : ∀ ds R, F__law_rows_of_k38 ds R → ∀ i, i < ds.length → M__law_rows_of_k38 i = false := by
  rintro ds R ⟨_, _, rfl, _⟩ i hi
  have : i < 2 := hi
  match i, this with
  | 0, _ => rfl
  | 1, _ => rfl
theorem at_I {l : List Nat} {k : Nat} (h : k < l.length) : atI (l.map dI) (k : Int) = some (dI (l.getD k 0)) := by
  rw [atI_nat, List.getElem?_map, List.getElem?_eq_getElem h, List.getD_eq_getElem?_getD, List.getElem?_eq_getElem h]
  rfl
theorem pure__law_rows_of_k38 : ∀ ds R, F__law_rows_of_k38 ds R → sem__law_rows_of_k38 { nx := fun _ => R .non, rt := R } (startD 5 ds) := by
  rintro ds R ⟨ws, most, rfl, hn, hw, hm, r⟩
  show sem__law_rows_of_k38 _ [some _, some _, none, none, none]
  have em : ((most : Int) + 1) = ((most + 1 : Nat) : Int) := by omega
  have er : rngD 1 ((most + 1 : Nat) : Int) = (List.range' 1 (most + 1 - 1)).map dI := rngD_two 1 (most + 1)
  simp only [sem__law_rows_of_k38, x_var, x_c, x_imm, x_op, x_un, x_cb, x_call, x_nil, x_cons, x_tup, x_lst, x_noPart, x_part, x_sl, x_test, x_and, x_or, x_not, x_yes, x_andV, x_orV, x_notV, x_if, x_it, x_gname, x_seq, x_skip, x_brk, x_cont, x_ret, x_retN, x_drop, x_ifS, x_set, x_setO, x_asg, x_sortSet, x_for, x_get, x_din, x_dnotin, List.set_cons_zero, List.set_cons_succ, List.getElem?_cons_zero, List.getElem?_cons_succ, List.length_cons, List.length_nil, Option.some.injEq, exists_eq_left', D.bl.injEq, D.int.injEq, flatD, immL, imm, fAdd, dRng2, em]
  refine ⟨by decide, rfl, by decide, by omega, ?_⟩
  rw [er]
  refine forL_inv dI (fun rest δ => ∃ (j : Nat) (a : Option D), rest = List.range' j (most + 1 - j) ∧ 1 ≤ j ∧ j ≤ most + 1 ∧ δ = [some (.tup (ws.map dW)), some (.int (most : Int)), some (.lst ((rowsL ws (j - 1)).map dI)), a, none]) _ _ ⟨1, none, by simp, Nat.le_refl _, by omega, rfl⟩ ?_ ?_
  · rintro δ ⟨j, a, h1, h2, h3, rfl⟩
    have := range_end h1 h3
    subst this
    exact r
  · rintro k xs δ ⟨j, a, h1, h2, h3, rfl⟩ KK hK
    obtain ⟨rfl, h5, h6⟩ := range_step h1
    have ek : k = (k - 1) + 1 := by omega
    simp only [x_var, x_c, x_imm, x_op, x_un, x_cb, x_call, x_nil, x_cons, x_tup, x_lst, x_noPart, x_part, x_sl, x_test, x_and, x_or, x_not, x_yes, x_andV, x_orV, x_notV, x_if, x_it, x_gname, x_seq, x_skip, x_brk, x_cont, x_ret, x_retN, x_drop, x_ifS, x_set, x_setO, x_asg, x_sortSet, x_for, x_get, x_din, x_dnotin, List.set_cons_zero, List.set_cons_succ, List.getElem?_cons_zero, List.getElem?_cons_succ, List.length_cons, List.length_nil, Option.some.injEq, exists_eq_left', D.bl.injEq, D.int.injEq, dAppend, fItems, dLcZ, wipeD, List.length_map]
    refine ⟨by rw [sizeLine_eq]; omega, by simp, ?_⟩
    refine lcD_fm dW (fun w => decide (w.length ≤ k)) (fun w => dI ((rowsL ws (k - 1)).getD (k - w.length) 0)) ws [] (fun w hww Q q => ?_) ?_
    · obtain ⟨w1, w2⟩ := hw w hww
      have w3 : 0 < w.length := List.length_pos_iff.mpr w1
      simp only [x_var, x_c, x_imm, x_op, x_un, x_cb, x_call, x_nil, x_cons, x_tup, x_lst, x_noPart, x_part, x_sl, x_test, x_and, x_or, x_not, x_yes, x_andV, x_orV, x_notV, x_if, x_it, x_gname, x_seq, x_skip, x_brk, x_cont, x_ret, x_retN, x_drop, x_ifS, x_set, x_setO, x_asg, x_sortSet, x_for, x_get, x_din, x_dnotin, List.set_cons_zero, List.set_cons_succ, List.getElem?_cons_zero, List.getElem?_cons_succ, List.length_cons, List.length_nil, Option.some.injEq, exists_eq_left', D.bl.injEq, D.int.injEq, fLen, fB0, fI0, sizeLine_eq, dW]
      refine ⟨by omega, ?_⟩
      by_cases c : w.length ≤ k
      · have e1 : ((k : Int) - (w.length : Int)) = ((k - w.length : Nat) : Int) := by omega
        have e2 := at_I (l := rowsL ws (k - 1)) (k := k - w.length) (by rw [rowsL_len]; omega)
        have c' : (w.length : Int) ≤ (k : Int) := by omega
        simp only [c, decide_true, if_true] at q
        simp only [c', decide_true, if_true, x_var, x_c, x_imm, x_op, x_un, x_cb, x_call, x_nil, x_cons, x_tup, x_lst, x_noPart, x_part, x_sl, x_test, x_and, x_or, x_not, x_yes, x_andV, x_orV, x_notV, x_if, x_it, x_gname, x_seq, x_skip, x_brk, x_cont, x_ret, x_retN, x_drop, x_ifS, x_set, x_setO, x_asg, x_sortSet, x_for, x_get, x_din, x_dnotin, List.set_cons_zero, List.set_cons_succ, List.getElem?_cons_zero, List.getElem?_cons_succ, List.length_cons, List.length_nil, Option.some.injEq, exists_eq_left', D.bl.injEq, D.int.injEq, fLen, e1, fSub, e2, imm, sizeLine_eq, true_and]
        exact ⟨by omega, q⟩
      · have c' : ¬ (w.length : Int) ≤ (k : Int) := by omega
        simp only [c, decide_false] at q
        simp only [c', decide_false]
        exact q
    · rw [List.nil_append]
      simp only [fSum, intsOf_nats, sum_cast]
      refine ⟨rfl, by rw [rowsL_len, sizeLine_eq]; omega, ?_⟩
      refine hK _ ⟨k + 1, some (dI k), h5, by omega, by omega, ?_⟩
      have e3 : k + 1 - 1 = (k - 1) + 1 := by omega
      rw [e3]
      have e4 : rowsL ws (k - 1 + 1) = rowsL ws (k - 1) ++ [((ws.filter fun w => decide (w.length ≤ k)).map fun w => (rowsL ws (k - 1)).getD (k - w.length) 0).sum] := by
        show rowsL ws (k - 1) ++ [_] = _
        rw [← ek]
      rw [e4, List.map_append]
      rfl
end PD
set_option Elab.async false
set_option linter.all false
set_option maxRecDepth 100000
set_option maxHeartbeats 4000000
namespace PD
open PySem PySem.Spec PyProof.Rows L2
/-! ### the pool's own defs -/
def F__law_spread : DF := fun ds R => ∃ i : Int, ds = [.int i] ∧ ∀ v : Int, R (.int v)
def M__law_spread : Nat → Bool := fun i => ([] : List Nat).contains i
/- 0 cell, 1 mixed, 2 total, 3 k -/
def sem__law_spread : DS := (dSeq (dSet 1 (dOp (fII (fun _ j => 0 < j) fun i j => i % j) (dCB fInt (dCons (dVar 0) dNil)) (dC (.int 2147483647))))
  (dSeq (dSet 2 (dC (.int 1)))
  (dSeq (dFor (dRng1 (dCons (dC (.int 4)) dNil)) (dgName 3) (dSeq (dSet 1 (dOp (fII (fun _ j => 0 < j) fun i j => i % j) (dCB fInt (dCons (dOp fAdd (dOp fAdd (dOp (fII CMul fun i j => i * j) (dVar 1) (dC (.int 48271))) (dC (.int 12345))) (dVar 3)) dNil)) (dC (.int 2147483647))))
  (dSet 2 (dOp fAdd (dOp (fII CMul fun i j => i * j) (dVar 2) (dC (.int 2147483647))) (dVar 1)))))
  (dRet (dImm (dVar 2))))))
theorem len__law_spread : ∀ ds R, F__law_spread ds R → ds.length = 1 := by
  rintro ds R ⟨_, rfl, _⟩
  rfl
theorem own__law_spread : ∀ ds R, F__law_spread ds R → ∀ i, i < ds.length → M__law_spread i = false := fun _ _ _ _ _ => rfl
theorem pure__law_spread : ∀ ds R, F__law_spread ds R → sem__law_spread { nx := fun _ => R .non, rt := R } (startD 4 ds) := by
  rintro ds R ⟨i, rfl, r⟩
  show sem__law_spread _ [some _, none, none, none]
  have e4 : rngD 0 4 = (List.range 4).map dI := rngD_nat 4
  simp only [sem__law_spread, x_var, x_c, x_imm, x_op, x_un, x_cb, x_call, x_nil, x_cons, x_tup, x_lst, x_noPart, x_part, x_sl, x_test, x_and, x_or, x_not, x_yes, x_andV, x_orV, x_notV, x_if, x_it, x_gname, x_seq, x_skip, x_brk, x_cont, x_ret, x_retN, x_drop, x_ifS, x_set, x_setO, x_asg, x_sortSet, x_for, x_get, x_din, x_dnotin, List.set_cons_zero, List.set_cons_succ, List.getElem?_cons_zero, List.getElem?_cons_succ, List.length_cons, List.length_nil, Option.some.injEq, exists_eq_left', D.bl.injEq, D.int.injEq, fInt, fII, dRng1, e4]
  refine ⟨by decide, by decide, ?_⟩
  refine forL_inv dI (fun rest δ => ∃ (a b : Int) (o : Option D), δ = [some (.int i), some (.int a), some (.int b), o]) _ _ ⟨_, _, none, rfl⟩ ?_ ?_
  · rintro δ ⟨a, b, o, rfl⟩
    simp only [x_var, x_c, x_imm, x_op, x_un, x_cb, x_call, x_nil, x_cons, x_tup, x_lst, x_noPart, x_part, x_sl, x_test, x_and, x_or, x_not, x_yes, x_andV, x_orV, x_notV, x_if, x_it, x_gname, x_seq, x_skip, x_brk, x_cont, x_ret, x_retN, x_drop, x_ifS, x_set, x_setO, x_asg, x_sortSet, x_for, x_get, x_din, x_dnotin, List.set_cons_zero, List.set_cons_succ, List.getElem?_cons_zero, List.getElem?_cons_succ, List.length_cons, List.length_nil, Option.some.injEq, exists_eq_left', D.bl.injEq, D.int.injEq, imm, true_and]
    exact r b
  · rintro k xs δ ⟨a, b, o, rfl⟩ KK hK
    simp only [x_var, x_c, x_imm, x_op, x_un, x_cb, x_call, x_nil, x_cons, x_tup, x_lst, x_noPart, x_part, x_sl, x_test, x_and, x_or, x_not, x_yes, x_andV, x_orV, x_notV, x_if, x_it, x_gname, x_seq, x_skip, x_brk, x_cont, x_ret, x_retN, x_drop, x_ifS, x_set, x_setO, x_asg, x_sortSet, x_for, x_get, x_din, x_dnotin, List.set_cons_zero, List.set_cons_succ, List.getElem?_cons_zero, List.getElem?_cons_succ, List.length_cons, List.length_nil, Option.some.injEq, exists_eq_left', D.bl.injEq, D.int.injEq, fInt, fII, fAdd]
    refine ⟨.inr ⟨by decide, by decide⟩, by decide, .inr ⟨by decide, by decide⟩, hK _ ⟨_, _, _, rfl⟩⟩
def F__law_draw : DF := fun ds R => ∃ many : Int, ds = [.pool, .int many] ∧ 0 < many ∧ many < 1000000000 ∧ ∀ r : Int, 0 ≤ r → r < many → R (.int r)
theorem draw_nat {many : Nat} {R : D → Prop} (h : 0 < many) (h2 : many < 1000000000) (r : ∀ k : Nat, k < many → R (dI k)) : F__law_draw [.pool, .int (many : Int)] R :=
  ⟨many, rfl, by omega, by omega, fun z z1 z2 => by
    have := r z.toNat (by omega)
    have e : ((z.toNat : Nat) : Int) = z := by omega
    unfold dI at this
    rwa [e] at this⟩
def F__law_pick : DF := fun ds R => ∃ items : List D, ds = [.pool, .lst items] ∧ items ≠ [] ∧ items.length < 1000000 ∧ immL items = true ∧ ∀ x ∈ items, R x
def M__law_pick : Nat → Bool := fun i => ([] : List Nat).contains i
/- 0 pool, 1 items -/
def sem__law_pick : DS := (dRet (dImm (dOp fSub (dVar 1) (dCall F__law_draw (dCons (dVar 0) (dCons (dCB fLen (dCons (dVar 1) dNil)) dNil))))))
theorem len__law_pick : ∀ ds R, F__law_pick ds R → ds.length = 2 := by
  rintro ds R ⟨_, rfl, _⟩
  rfl
theorem own__law_pick : ∀ ds R, F__law_pick ds R → ∀ i, i < ds.length → M__law_pick i = false := fun _ _ _ _ _ => rfl
theorem pure__law_pick : ∀ ds R, F__law_pick ds R → sem__law_pick { nx := fun _ => R .non, rt := R } (startD 2 ds) := by
  rintro ds R ⟨items, rfl, h0, h1, hi, r⟩
  show sem__law_pick _ [some _, some _]
  simp only [sem__law_pick, x_var, x_c, x_imm, x_op, x_un, x_cb, x_call, x_nil, x_cons, x_tup, x_lst, x_noPart, x_part, x_sl, x_test, x_and, x_or, x_not, x_yes, x_andV, x_orV, x_notV, x_if, x_it, x_gname, x_seq, x_skip, x_brk, x_cont, x_ret, x_retN, x_drop, x_ifS, x_set, x_setO, x_asg, x_sortSet, x_for, x_get, x_din, x_dnotin, List.set_cons_zero, List.set_cons_succ, List.getElem?_cons_zero, List.getElem?_cons_succ, List.length_cons, List.length_nil, Option.some.injEq, exists_eq_left', D.bl.injEq, D.int.injEq, fLen]
  refine draw_nat (List.length_pos_iff.mpr h0) (by omega) fun k hk => ?_
  simp only [fSub, atI_nat, List.getElem?_eq_getElem hk]
  exact ⟨_, rfl, immL_mem hi _ (List.getElem_mem hk), r _ (List.getElem_mem hk)⟩
/-- words of the three letters -/
def Abc (w : Wd) : Prop := ∀ c ∈ w, c = 97 ∨ c = 98 ∨ c = 99
theorem pick_abc {R : D → Prop} (r : ∀ c, (c = 97 ∨ c = 98 ∨ c = 99) → R (dW [c])) : F__law_pick [.pool, .lst [.str [97], .str [98], .str [99], .str [97]]] R :=
  ⟨_, rfl, by simp, by simp, rfl, fun x hx => by
    simp only [List.mem_cons, List.not_mem_nil, or_false] at hx
    rcases hx with rfl | rfl | rfl | rfl
    · exact r 97 (by simp)
    · exact r 98 (by simp)
    · exact r 99 (by simp)
    · exact r 97 (by simp)⟩
def F__law_word_k38 : DF := fun ds R => ∃ most : Nat, ds = [.pool, .int (most : Int)] ∧ most ≤ 1000 ∧ ∀ w, Abc w → w.length ≤ most → R (dW w)
def M__law_word_k38 : Nat → Bool := fun i => ([] : List Nat).contains i
/- 0 pool, 1 most, 2 k -/
def sem__law_word_k38 : DS := (dRet (dM1 fJoin (dC (.str [])) (dLc (dRng1 (dCons (dCall F__law_draw (dCons (dVar 0) (dCons (dOp fAdd (dVar 1) (dC (.int 1))) dNil))) dNil)) (dgName 2) dYes (dCall F__law_pick (dCons (dVar 0) (dCons (dLst (dCons (dC (.str [97])) (dCons (dC (.str [98])) (dCons (dC (.str [99])) (dCons (dC (.str [97])) dNil))))) dNil))) [2])))
theorem len__law_word_k38 : ∀ ds R, F__law_word_k38 ds R → ds.length = 2 := by
  rintro ds R ⟨_, rfl, _⟩
  rfl
theorem own__law_word_k38 : ∀ ds R, F__law_word_k38 ds R → ∀ i, i < ds.length → M__law_word_k38 i = false := fun _ _ _ _ _ => rfl
/-- a comprehension whose items are drawn -/
theorem lcD_any {α β : Type} (enc : α → D) (out : β → D) (P : β → Prop) {tg : DG} {te : DE} {δ : DEnv} {R : D → Prop} : ∀ (l : List α) (acc : List β),
    (∀ x ∈ l, ∀ Q : D → Prop, (∀ y, P y → Q (out y)) → tg (enc x) δ fun δ2 => te δ2 Q) →
    (∀ ys : List β, ys.length = l.length → (∀ y ∈ ys, P y) → R (.lst ((acc ++ ys).map out))) → lcD tg dYes te δ (l.map enc) (acc.map out) R
  | [], acc, _, r => by simpa [lcD] using r [] rfl (fun y h => nomatch h)
  | x :: l, acc, hx, r => by
    rw [List.map_cons]
    unfold lcD
    have h := hx x (List.mem_cons_self ..) (fun y => lcD tg dYes te δ (l.map enc) (acc.map out ++ [y]) R) fun y hy => by
      have e : acc.map out ++ [out y] = (acc ++ [y]).map out := by simp
      rw [e]
      exact lcD_any enc out P l (acc ++ [y]) (fun z hz => hx z (List.mem_cons_of_mem _ hz)) fun ys h1 h2 => by
        have := r (y :: ys) (by simp [h1]) fun z hz => by
          rcases List.mem_cons.mp hz with rfl | hz
          · exact hy
          · exact h2 z hz
        simpa using this
    simpa using h
theorem abc_flat {ls : List Wd} (h : ∀ w ∈ ls, Abc w) : Abc ls.flatten := fun c hc => by
  obtain ⟨w, hw, hcw⟩ := List.mem_flatten.mp hc
  exact h w hw c hcw
theorem abc_app {a b : Wd} (ha : Abc a) (hb : Abc b) : Abc (a ++ b) := fun c hc => (List.mem_append.mp hc).elim (ha c) (hb c)
theorem sum_ones {ls : List Wd} (h : ∀ w ∈ ls, w.length = 1) : (ls.map (·.length)).sum = ls.length := by
  induction ls with
  | nil => rfl
  | cons w ls ih =>
    rw [List.map_cons, List.sum_cons, ih fun x hx => h x (List.mem_cons_of_mem _ hx), h w (List.mem_cons_self ..), List.length_cons]
    omega
theorem pure__law_word_k38 : ∀ ds R, F__law_word_k38 ds R → sem__law_word_k38 { nx := fun _ => R .non, rt := R } (startD 3 ds) := by
  rintro ds R ⟨most, rfl, hm, r⟩
  show sem__law_word_k38 _ [some _, some _, none]
  have em : ((most : Int) + 1) = ((most + 1 : Nat) : Int) := by omega
  simp only [sem__law_word_k38, dM1, x_var, x_c, x_imm, x_op, x_un, x_cb, x_call, x_nil, x_cons, x_tup, x_lst, x_noPart, x_part, x_sl, x_test, x_and, x_or, x_not, x_yes, x_andV, x_orV, x_notV, x_if, x_it, x_gname, x_seq, x_skip, x_brk, x_cont, x_ret, x_retN, x_drop, x_ifS, x_set, x_setO, x_asg, x_sortSet, x_for, x_get, x_din, x_dnotin, List.set_cons_zero, List.set_cons_succ, List.getElem?_cons_zero, List.getElem?_cons_succ, List.length_cons, List.length_nil, Option.some.injEq, exists_eq_left', D.bl.injEq, D.int.injEq, fAdd, dLcZ, dRng1, wipeD, em, true_and]
  refine draw_nat (by omega) (by omega) fun k hk => ?_
  refine ⟨by omega, ?_⟩
  rw [show rngD 0 (k : Int) = (List.range k).map dI from rngD_nat k]
  refine ⟨by rw [List.length_map, List.length_range, sizeLine_eq]; omega, by simp, ?_⟩
  refine lcD_any dI dW (fun w => Abc w ∧ w.length = 1) (List.range k) [] (fun x hx Q q => ?_) fun ys h1 h2 => ?_
  · simp only [x_var, x_c, x_imm, x_op, x_un, x_cb, x_call, x_nil, x_cons, x_tup, x_lst, x_noPart, x_part, x_sl, x_test, x_and, x_or, x_not, x_yes, x_andV, x_orV, x_notV, x_if, x_it, x_gname, x_seq, x_skip, x_brk, x_cont, x_ret, x_retN, x_drop, x_ifS, x_set, x_setO, x_asg, x_sortSet, x_for, x_get, x_din, x_dnotin, List.set_cons_zero, List.set_cons_succ, List.getElem?_cons_zero, List.getElem?_cons_succ, List.length_cons, List.length_nil, Option.some.injEq, exists_eq_left', D.bl.injEq, D.int.injEq]
    exact ⟨by decide, pick_abc fun c hc => q [c] ⟨fun y hy => by rw [List.mem_singleton.mp hy]; exact hc, rfl⟩⟩
  · have e := strsOf_map (fun w : Wd => w) ys
    rw [List.map_id'] at e
    have h3 := sum_ones fun w hw => (h2 w hw).2
    rw [List.length_range] at h1
    rw [List.nil_append]
    simp only [fJoin, e]
    refine ⟨by rw [h3, sizeLine_eq]; omega, r ys.flatten (abc_flat fun w hw => (h2 w hw).1) ?_⟩
    rw [List.length_flatten, h3]
    omega
/-- the lists that the law draws -/
def CodeW (ws : List Wd) : Prop := 1 ≤ ws.length ∧ ws.length ≤ 4 ∧ (∀ w ∈ ws, w ≠ [] ∧ Abc w ∧ w.length ≤ 5) ∧ ∀ w ∈ ws.tail, w.length ≤ 3
def F__law_code_k38 : DF := fun ds R => ds = [.pool] ∧ ∀ ws, CodeW ws → R (.tup (ws.map dW))
def M__law_code_k38 : Nat → Bool := fun i => ([2] : List Nat).contains i
/- 0 pool, 1 many, 2 words, 3 k -/
def sem__law_code_k38 : DS := (dSeq (dSet 1 (dOp fAdd (dC (.int 1)) (dCall F__law_draw (dCons (dVar 0) (dCons (dC (.int 4)) dNil)))))
  (dSeq (dSetO 2 (dLc (dRng1 (dCons (dVar 1) dNil)) (dgName 3) dYes (dOp fAdd (dCall F__law_word_k38 (dCons (dVar 0) (dCons (dC (.int 2)) dNil))) (dCall F__law_pick (dCons (dVar 0) (dCons (dLst (dCons (dC (.str [97])) (dCons (dC (.str [98])) (dCons (dC (.str [99])) (dCons (dC (.str [97])) dNil))))) dNil)))) [3]))
  (dSeq (dIfS (dAnd (dTest (dOp fEq (dCall F__law_draw (dCons (dVar 0) (dCons (dC (.int 3)) dNil))) (dC (.int 0)))) (dTest (dOp (fB0 fun i j => decide (j < i)) (dVar 1) (dC (.int 1))))) (dSetAt 2 (dC (.int 0)) (dOp fAdd (dOp fSub (dVar 2) (dOp (fI0 fun i j => i - j) (dVar 1) (dC (.int 1)))) (dCall F__law_pick (dCons (dVar 0) (dCons (dLst (dCons (dC (.str [97])) (dCons (dC (.str [])) (dCons (dC (.str [98, 97])) dNil)))) dNil))))) dSkip)
  (dRet (dCB fTuple (dCons (dVar 2) dNil))))))
theorem len__law_code_k38 : ∀ ds R, F__law_code_k38 ds R → ds.length = 1 := by
  rintro ds R ⟨rfl, _⟩
  rfl
theorem own__law_code_k38 : ∀ ds R, F__law_code_k38 ds R → ∀ i, i < ds.length → M__law_code_k38 i = false := by
  rintro ds R ⟨rfl, _⟩ i hi
  have : i = 0 := by simpa using hi
  subst this
  rfl
theorem pure__law_code_k38 : ∀ ds R, F__law_code_k38 ds R → sem__law_code_k38 { nx := fun _ => R .non, rt := R } (startD 4 ds) := by
  rintro ds R ⟨rfl, r⟩
  show sem__law_code_k38 _ [some _, none, none, none]
  simp only [sem__law_code_k38, x_var, x_c, x_imm, x_op, x_un, x_cb, x_call, x_nil, x_cons, x_tup, x_lst, x_noPart, x_part, x_sl, x_test, x_and, x_or, x_not, x_yes, x_andV, x_orV, x_notV, x_if, x_it, x_gname, x_seq, x_skip, x_brk, x_cont, x_ret, x_retN, x_drop, x_ifS, x_set, x_setO, x_asg, x_sortSet, x_for, x_get, x_din, x_dnotin, List.set_cons_zero, List.set_cons_succ, List.getElem?_cons_zero, List.getElem?_cons_succ, List.length_cons, List.length_nil, Option.some.injEq, exists_eq_left', D.bl.injEq, D.int.injEq]
  refine draw_nat (many := 4) (by decide) (by decide) fun k hk => ?_
  have ek : (1 : Int) + (k : Int) = ((1 + k : Nat) : Int) := by omega
  simp only [x_var, x_c, x_imm, x_op, x_un, x_cb, x_call, x_nil, x_cons, x_tup, x_lst, x_noPart, x_part, x_sl, x_test, x_and, x_or, x_not, x_yes, x_andV, x_orV, x_notV, x_if, x_it, x_gname, x_seq, x_skip, x_brk, x_cont, x_ret, x_retN, x_drop, x_ifS, x_set, x_setO, x_asg, x_sortSet, x_for, x_get, x_din, x_dnotin, List.set_cons_zero, List.set_cons_succ, List.getElem?_cons_zero, List.getElem?_cons_succ, List.length_cons, List.length_nil, Option.some.injEq, exists_eq_left', D.bl.injEq, D.int.injEq, fAdd, ek, dLcZ, dRng1, wipeD]
  refine ⟨by omega, ?_⟩
  rw [show rngD 0 ((1 + k : Nat) : Int) = (List.range (1 + k)).map dI from rngD_nat (1 + k)]
  refine ⟨by rw [List.length_map, List.length_range, sizeLine_eq]; omega, by simp, ?_⟩
  refine lcD_any dI dW (fun w => w ≠ [] ∧ Abc w ∧ w.length ≤ 3) (List.range (1 + k)) [] (fun x hx Q q => ?_) fun ws h1 h2 => ?_
  · simp only [x_var, x_c, x_imm, x_op, x_un, x_cb, x_call, x_nil, x_cons, x_tup, x_lst, x_noPart, x_part, x_sl, x_test, x_and, x_or, x_not, x_yes, x_andV, x_orV, x_notV, x_if, x_it, x_gname, x_seq, x_skip, x_brk, x_cont, x_ret, x_retN, x_drop, x_ifS, x_set, x_setO, x_asg, x_sortSet, x_for, x_get, x_din, x_dnotin, List.set_cons_zero, List.set_cons_succ, List.getElem?_cons_zero, List.getElem?_cons_succ, List.length_cons, List.length_nil, Option.some.injEq, exists_eq_left', D.bl.injEq, D.int.injEq]
    refine ⟨2, rfl, by decide, fun w hw hl => ?_⟩
    refine ⟨by decide, pick_abc fun c hc => ?_⟩
    simp only [fAdd, sizeLine_eq]
    refine ⟨by simp only [List.length_cons, List.length_nil]; omega, q (w ++ [c]) ⟨by simp, abc_app hw fun y hy => by rw [List.mem_singleton.mp hy]; exact hc, by simp only [List.length_append, List.length_cons, List.length_nil]; omega⟩⟩
  · rw [List.length_range] at h1
    rw [List.nil_append]
    simp only [x_var, x_c, x_imm, x_op, x_un, x_cb, x_call, x_nil, x_cons, x_tup, x_lst, x_noPart, x_part, x_sl, x_test, x_and, x_or, x_not, x_yes, x_andV, x_orV, x_notV, x_if, x_it, x_gname, x_seq, x_skip, x_brk, x_cont, x_ret, x_retN, x_drop, x_ifS, x_set, x_setO, x_asg, x_sortSet, x_for, x_get, x_din, x_dnotin, List.set_cons_zero, List.set_cons_succ, List.getElem?_cons_zero, List.getElem?_cons_succ, List.length_cons, List.length_nil, Option.some.injEq, exists_eq_left', D.bl.injEq, D.int.injEq, flatD, imm_words]
    refine ⟨trivial, by decide, ?_⟩
    have base : CodeW ws := ⟨by omega, by omega, fun w hw => ⟨(h2 w hw).1, (h2 w hw).2.1, by have := (h2 w hw).2.2; omega⟩, fun w hw => (h2 w (List.mem_of_mem_tail hw)).2.2⟩
    refine draw_nat (many := 3) (by decide) (by decide) fun z hz => ?_
    have ez : eqb (dI z) (.int 0) = decide (z = 0) := eqb_nat z 0
    simp only [x_var, x_c, x_imm, x_op, x_un, x_cb, x_call, x_nil, x_cons, x_tup, x_lst, x_noPart, x_part, x_sl, x_test, x_and, x_or, x_not, x_yes, x_andV, x_orV, x_notV, x_if, x_it, x_gname, x_seq, x_skip, x_brk, x_cont, x_ret, x_retN, x_drop, x_ifS, x_set, x_setO, x_asg, x_sortSet, x_for, x_get, x_din, x_dnotin, List.set_cons_zero, List.set_cons_succ, List.getElem?_cons_zero, List.getElem?_cons_succ, List.length_cons, List.length_nil, Option.some.injEq, exists_eq_left', D.bl.injEq, D.int.injEq, fEq, sc, ez, Bool.true_or, true_and, decide_eq_true_eq, fB0]
    by_cases c1 : z = 0
    · rw [if_pos c1]
      by_cases c2 : (1 : Int) < ((1 + k : Nat) : Int)
      · rw [if_pos c2]
        have e1 : (((1 + k : Nat) : Int) - 1) = ((k : Nat) : Int) := by omega
        have a1 : atI (ws.map dW) ((k : Nat) : Int) = some (dW (ws.getD k [])) := atW (by omega)
        have hk2 := h2 (ws.getD k []) (getD_mem (by omega))
        simp only [dSetAt, x_var, x_c, x_imm, x_op, x_un, x_cb, x_call, x_nil, x_cons, x_tup, x_lst, x_noPart, x_part, x_sl, x_test, x_and, x_or, x_not, x_yes, x_andV, x_orV, x_notV, x_if, x_it, x_gname, x_seq, x_skip, x_brk, x_cont, x_ret, x_retN, x_drop, x_ifS, x_set, x_setO, x_asg, x_sortSet, x_for, x_get, x_din, x_dnotin, List.set_cons_zero, List.set_cons_succ, List.getElem?_cons_zero, List.getElem?_cons_succ, List.length_cons, List.length_nil, Option.some.injEq, exists_eq_left', D.bl.injEq, D.int.injEq, fI0, e1, fSub, a1]
        have fin : ∀ v : Wd, Abc v → v.length ≤ 2 → imm (D.str (ws.getD k [] ++ v)) = true ∧ immL (ws.map dW) = true ∧ R (.tup ((ws.map dW).set 0 (.str (ws.getD k [] ++ v)))) := fun v hv hl => by
          refine ⟨rfl, imm_words ws, ?_⟩
          have e2 : (ws.map dW).set 0 (.str (ws.getD k [] ++ v)) = (ws.set 0 (ws.getD k [] ++ v)).map dW := by rw [List.map_set]
          rw [e2]
          refine r _ ⟨by rw [List.length_set]; omega, by rw [List.length_set]; omega, fun w hw => ?_, fun w hw => ?_⟩
          · rcases List.mem_or_eq_of_mem_set hw with hw | hw
            · exact base.2.2.1 w hw
            · rw [hw]
              exact ⟨fun h => hk2.1 (List.append_eq_nil_iff.mp h).1, abc_app hk2.2.1 hv, by rw [List.length_append]; have := hk2.2.2; omega⟩
          · match ws, hw, base with
            | [], hw, _ => simp at hw
            | x :: l, hw, base => exact base.2.2.2 w (by simpa using hw)
        refine ⟨by decide, ⟨_, rfl, by simp, by simp, rfl, fun x hx => ?_⟩⟩
        simp only [List.mem_cons, List.not_mem_nil, or_false] at hx
        have hl3 := hk2.2.2
        have hix : ixN (ws.map dW).length 0 = some 0 := by
          unfold ixN
          rw [List.length_map, if_pos (by omega), if_pos (by omega)]
          rfl
        have go : ∀ v : Wd, Abc v → v.length ≤ 2 → fAdd (dW (ws.getD k [])) (D.str v) fun v => imm v = true ∧ immL (ws.map dW) = true ∧ match ixN (ws.map dW).length 0 with
            | some n => fTuple [D.lst ((ws.map dW).set n v)] R
            | none => False := fun v hv hl => by
          obtain ⟨f1, f2, f3⟩ := fin v hv hl
          refine ⟨by rw [sizeLine_eq]; omega, f1, f2, ?_⟩
          rw [hix]
          refine ⟨?_, f3⟩
          rw [show (ws.map dW).set 0 (.str (ws.getD k [] ++ v)) = (ws.set 0 (ws.getD k [] ++ v)).map dW by rw [List.map_set]]
          exact imm_words _
        rcases hx with rfl | rfl | rfl
        · exact go [97] (fun c hc => by simp at hc; simp [hc]) (by simp)
        · exact go [] (fun c hc => nomatch hc) (by simp)
        · exact go [98, 97] (fun c hc => by simp at hc; rcases hc with rfl | rfl <;> simp) (by simp)
      · rw [if_neg c2]
        simp only [x_var, x_c, x_imm, x_op, x_un, x_cb, x_call, x_nil, x_cons, x_tup, x_lst, x_noPart, x_part, x_sl, x_test, x_and, x_or, x_not, x_yes, x_andV, x_orV, x_notV, x_if, x_it, x_gname, x_seq, x_skip, x_brk, x_cont, x_ret, x_retN, x_drop, x_ifS, x_set, x_setO, x_asg, x_sortSet, x_for, x_get, x_din, x_dnotin, List.set_cons_zero, List.set_cons_succ, List.getElem?_cons_zero, List.getElem?_cons_succ, List.length_cons, List.length_nil, Option.some.injEq, exists_eq_left', D.bl.injEq, D.int.injEq, fTuple, imm_words, true_and]
        exact r ws base
    · rw [if_neg c1]
      simp only [x_var, x_c, x_imm, x_op, x_un, x_cb, x_call, x_nil, x_cons, x_tup, x_lst, x_noPart, x_part, x_sl, x_test, x_and, x_or, x_not, x_yes, x_andV, x_orV, x_notV, x_if, x_it, x_gname, x_seq, x_skip, x_brk, x_cont, x_ret, x_retN, x_drop, x_ifS, x_set, x_setO, x_asg, x_sortSet, x_for, x_get, x_din, x_dnotin, List.set_cons_zero, List.set_cons_succ, List.getElem?_cons_zero, List.getElem?_cons_succ, List.length_cons, List.length_nil, Option.some.injEq, exists_eq_left', D.bl.injEq, D.int.injEq, fTuple, imm_words, true_and]
      exact r ws base
end PD
set_option Elab.async false
set_option linter.all false
set_option maxRecDepth 100000
set_option maxHeartbeats 4000000
namespace PD
open PySem PySem.Spec PyProof.Rows L2
/-! ### _law_same -/
mutual
def sameD : D → D → Bool
  | .tup xs, .tup ys => sameL xs ys
  | .lst xs, .lst ys => sameL xs ys
  | .non, .non => true
  | .bl a, .bl b => decide (a = b)
  | .int a, .int b => decide (a = b)
  | .str a, .str b => decide (a = b)
  | _, _ => false
def sameL : List D → List D → Bool
  | [], [] => true
  | x :: xs, y :: ys => sameD x y && sameL xs ys
  | _, _ => false
end
mutual
/-- plain data, nested at most so deep, of small lengths -/
def okD : Nat → D → Bool
  | _, .non => true
  | _, .bl _ => true
  | _, .int _ => true
  | _, .str _ => true
  | n + 1, .tup xs => decide (xs.length ≤ 1000000) && okL n xs
  | n + 1, .lst xs => decide (xs.length ≤ 1000000) && okL n xs
  | _, _ => false
def okL : Nat → List D → Bool
  | _, [] => true
  | n, d :: ds => okD n d && okL n ds
end
theorem okL_iff {n : Nat} {ds : List D} : okL n ds = true ↔ ∀ d ∈ ds, okD n d = true := by
  induction ds with
  | nil => exact ⟨(fun _ d m => nomatch m), fun _ => rfl⟩
  | cons d ds ih =>
    unfold okL
    rw [Bool.and_eq_true, ih]
    refine ⟨fun h e m => (List.mem_cons.mp m).elim (fun z => z ▸ h.1) (h.2 e), fun h => ⟨h d (List.mem_cons_self ..), fun e m => h e (List.mem_cons_of_mem _ m)⟩⟩
def F__law_same : Nat → DF
  | 0 => fun _ _ => False
  | n + 1 => fun ds R => ∃ a d : D, ds = [a, d] ∧ okD n a = true ∧ okD n d = true ∧ R (.bl (sameD a d))
theorem len__law_same (n : Nat) : ∀ ds R, F__law_same n ds R → ds.length = 2 := by
  intro ds R h
  cases n with
  | zero => exact h.elim
  | succ n =>
    obtain ⟨a, d, rfl, _⟩ := h
    rfl
theorem isi_go {s n : String} {b : Bool} {d : D} {R : D → Prop} (h1 : tyN d = some s) (h2 : kitB s n = some b) : fIsi [d, .ty n] R ↔ R (.bl b) := by
  constructor
  · rintro ⟨s', b', e1, e2, r⟩
    rw [h1] at e1
    cases e1
    rw [h2] at e2
    cases e2
    exact r
  · exact fun r => ⟨s, b, h1, h2, r⟩
def isT : D → Bool
  | .tup _ => true
  | _ => false
def isL : D → Bool
  | .lst _ => true
  | _ => false
def isBl : D → Bool
  | .bl _ => true
  | _ => false
def isI : D → Bool
  | .int _ => true
  | .bl _ => true
  | _ => false
def isS : D → Bool
  | .str _ => true
  | _ => false
section
variable {n : Nat} {R : D → Prop}
theorem isi_tuple : ∀ {d : D}, okD n d = true → (fIsi [d, .ty "tuple"] R ↔ R (.bl (isT d)))
  | .non, _ => isi_go (s := "NoneType") (b := false) rfl (by decide +kernel)
  | .bl _, _ => isi_go (s := "bool") (b := false) rfl (by decide +kernel)
  | .int _, _ => isi_go (s := "int") (b := false) rfl (by decide +kernel)
  | .str _, _ => isi_go (s := "str") (b := false) rfl (by decide +kernel)
  | .tup _, _ => isi_go (s := "tuple") (b := true) rfl (by decide +kernel)
  | .lst _, _ => isi_go (s := "list") (b := false) rfl (by decide +kernel)
  | .dK _, h => by cases n <;> (unfold okD at h; cases h)
  | .dT _, h => by cases n <;> (unfold okD at h; cases h)
  | .pool, h => by cases n <;> (unfold okD at h; cases h)
  | .ty _, h => by cases n <;> (unfold okD at h; cases h)
theorem isi_list : ∀ {d : D}, okD n d = true → (fIsi [d, .ty "list"] R ↔ R (.bl (isL d)))
  | .non, _ => isi_go (s := "NoneType") (b := false) rfl (by decide +kernel)
  | .bl _, _ => isi_go (s := "bool") (b := false) rfl (by decide +kernel)
  | .int _, _ => isi_go (s := "int") (b := false) rfl (by decide +kernel)
  | .str _, _ => isi_go (s := "str") (b := false) rfl (by decide +kernel)
  | .tup _, _ => isi_go (s := "tuple") (b := false) rfl (by decide +kernel)
  | .lst _, _ => isi_go (s := "list") (b := true) rfl (by decide +kernel)
  | .dK _, h => by cases n <;> (unfold okD at h; cases h)
  | .dT _, h => by cases n <;> (unfold okD at h; cases h)
  | .pool, h => by cases n <;> (unfold okD at h; cases h)
  | .ty _, h => by cases n <;> (unfold okD at h; cases h)
theorem isi_bool : ∀ {d : D}, okD n d = true → (fIsi [d, .ty "bool"] R ↔ R (.bl (isBl d)))
  | .non, _ => isi_go (s := "NoneType") (b := false) rfl (by decide +kernel)
  | .bl _, _ => isi_go (s := "bool") (b := true) rfl (by decide +kernel)
  | .int _, _ => isi_go (s := "int") (b := false) rfl (by decide +kernel)
  | .str _, _ => isi_go (s := "str") (b := false) rfl (by decide +kernel)
  | .tup _, _ => isi_go (s := "tuple") (b := false) rfl (by decide +kernel)
  | .lst _, _ => isi_go (s := "list") (b := false) rfl (by decide +kernel)
  | .dK _, h => by cases n <;> (unfold okD at h; cases h)
  | .dT _, h => by cases n <;> (unfold okD at h; cases h)
  | .pool, h => by cases n <;> (unfold okD at h; cases h)
  | .ty _, h => by cases n <;> (unfold okD at h; cases h)
theorem isi_int : ∀ {d : D}, okD n d = true → (fIsi [d, .ty "int"] R ↔ R (.bl (isI d)))
  | .non, _ => isi_go (s := "NoneType") (b := false) rfl (by decide +kernel)
  | .bl _, _ => isi_go (s := "bool") (b := true) rfl (by decide +kernel)
  | .int _, _ => isi_go (s := "int") (b := true) rfl (by decide +kernel)
  | .str _, _ => isi_go (s := "str") (b := false) rfl (by decide +kernel)
  | .tup _, _ => isi_go (s := "tuple") (b := false) rfl (by decide +kernel)
  | .lst _, _ => isi_go (s := "list") (b := false) rfl (by decide +kernel)
  | .dK _, h => by cases n <;> (unfold okD at h; cases h)
  | .dT _, h => by cases n <;> (unfold okD at h; cases h)
  | .pool, h => by cases n <;> (unfold okD at h; cases h)
  | .ty _, h => by cases n <;> (unfold okD at h; cases h)
theorem isi_str : ∀ {d : D}, okD n d = true → (fIsi [d, .ty "str"] R ↔ R (.bl (isS d)))
  | .non, _ => isi_go (s := "NoneType") (b := false) rfl (by decide +kernel)
  | .bl _, _ => isi_go (s := "bool") (b := false) rfl (by decide +kernel)
  | .int _, _ => isi_go (s := "int") (b := false) rfl (by decide +kernel)
  | .str _, _ => isi_go (s := "str") (b := true) rfl (by decide +kernel)
  | .tup _, _ => isi_go (s := "tuple") (b := false) rfl (by decide +kernel)
  | .lst _, _ => isi_go (s := "list") (b := false) rfl (by decide +kernel)
  | .dK _, h => by cases n <;> (unfold okD at h; cases h)
  | .dT _, h => by cases n <;> (unfold okD at h; cases h)
  | .pool, h => by cases n <;> (unfold okD at h; cases h)
  | .ty _, h => by cases n <;> (unfold okD at h; cases h)
end
def M__law_same : Nat → Bool := fun i => ([] : List Nat).contains i
/- 0 actual, 1 due, 2 k -/
def sem__law_same (n : Nat) : DS := (dSeq (dIfS (dOr (dTest (dCB fIsi (dCons (dVar 1) (dCons (dC (.ty "tuple")) dNil)))) (dTest (dCB fIsi (dCons (dVar 1) (dCons (dC (.ty "list")) dNil))))) (dSeq (dIfS (dOr (dTest (dOp fNe (dCB fIsi (dCons (dVar 1) (dCons (dC (.ty "tuple")) dNil))) (dCB fIsi (dCons (dVar 0) (dCons (dC (.ty "tuple")) dNil))))) (dOr (dTest (dOp fNe (dCB fIsi (dCons (dVar 1) (dCons (dC (.ty "list")) dNil))) (dCB fIsi (dCons (dVar 0) (dCons (dC (.ty "list")) dNil))))) (dTest (dOp fNe (dCB fLen (dCons (dVar 0) dNil)) (dCB fLen (dCons (dVar 1) dNil)))))) (dRet (dC (.bl false))) dSkip)
  (dRet (dOp fEq (dCB fLen (dCons (dLc (dRng1 (dCons (dCB fLen (dCons (dVar 1) dNil)) dNil)) (dgName 2) (dNot (dTest (dCall (F__law_same n) (dCons (dOp fSub (dVar 0) (dVar 2)) (dCons (dOp fSub (dVar 1) (dVar 2)) dNil))))) (dImm (dVar 2)) [2]) dNil)) (dC (.int 0))))) dSkip)
  (dSeq (dIfS (dTest (dOp fIsN (dVar 1) (dC .non))) (dRet (dOp fIsN (dVar 0) (dC .non))) dSkip)
  (dSeq (dIfS (dOr (dTest (dCB fIsi (dCons (dVar 1) (dCons (dC (.ty "bool")) dNil)))) (dTest (dCB fIsi (dCons (dVar 0) (dCons (dC (.ty "bool")) dNil))))) (dRet (dAndV (dCB fIsi (dCons (dVar 1) (dCons (dC (.ty "bool")) dNil))) (dAndV (dCB fIsi (dCons (dVar 0) (dCons (dC (.ty "bool")) dNil))) (dOp fEq (dVar 0) (dVar 1))))) dSkip)
  (dSeq (dIfS (dTest (dCB fIsi (dCons (dVar 1) (dCons (dC (.ty "int")) dNil)))) (dRet (dAndV (dCB fIsi (dCons (dVar 0) (dCons (dC (.ty "int")) dNil))) (dOp fEq (dVar 0) (dVar 1)))) dSkip)
  (dRet (dAndV (dCB fIsi (dCons (dVar 0) (dCons (dC (.ty "str")) dNil))) (dAndV (dCB fIsi (dCons (dVar 1) (dCons (dC (.ty "str")) dNil))) (dOp fEq (dVar 0) (dVar 1)))))))))
theorem own__law_same (n : Nat) : ∀ ds R, F__law_same n ds R → ∀ i, i < ds.length → M__law_same i = false := fun _ _ _ _ _ => rfl
theorem sameL_all : ∀ {xs ys : List D}, xs.length = ys.length → sameL xs ys = ((List.range ys.length).filter fun k => !sameD (xs.getD k .non) (ys.getD k .non)).isEmpty
  | [], [], _ => rfl
  | [], _ :: _, h => by simp at h
  | _ :: _, [], h => by simp at h
  | x :: xs, y :: ys, h => by
    have ih := sameL_all (xs := xs) (ys := ys) (by simpa using h)
    unfold sameL
    rw [ih, List.length_cons, List.range_succ_eq_map, List.filter_cons]
    have e : ((List.map Nat.succ (List.range ys.length)).filter fun k => !sameD ((x :: xs).getD k .non) ((y :: ys).getD k .non)) = ((List.range ys.length).filter fun k => !sameD (xs.getD k .non) (ys.getD k .non)).map Nat.succ := by
      rw [List.filter_map]
      congr 1
    rw [e]
    cases h1 : sameD x y
    · simp [h1]
    · simp [h1]
theorem same_len : ∀ {xs ys : List D}, xs.length ≠ ys.length → sameL xs ys = false
  | [], [], h => absurd rfl h
  | [], _ :: _, _ => rfl
  | _ :: _, [], _ => rfl
  | x :: xs, y :: ys, h => by
    unfold sameL
    rw [same_len (xs := xs) (ys := ys) (by simpa using h), Bool.and_false]
theorem at_D {l : List D} {k : Nat} (h : k < l.length) : atI l (k : Int) = some (l.getD k .non) := by
  rw [atI_nat, List.getElem?_eq_getElem h, List.getD_eq_getElem?_getD, List.getElem?_eq_getElem h]
  rfl
theorem getD_memD {l : List D} {k : Nat} (h : k < l.length) : l.getD k .non ∈ l := by
  rw [List.getD_eq_getElem?_getD, List.getElem?_eq_getElem h]
  exact List.getElem_mem h
theorem okD_seq {n : Nat} {xs : List D} {d : D} (hd : d = .tup xs ∨ d = .lst xs) (h : okD n d = true) : ∃ k, n = k + 1 ∧ xs.length ≤ 1000000 ∧ ∀ x ∈ xs, okD k x = true := by
  cases n with
  | zero => rcases hd with rfl | rfl <;> (unfold okD at h; cases h)
  | succ k =>
    refine ⟨k, rfl, ?_⟩
    rcases hd with rfl | rfl
    all_goals
      unfold okD at h
      rw [Bool.and_eq_true, decide_eq_true_eq] at h
      exact ⟨h.1, okL_iff.mp h.2⟩
/-- the part that asks item by item -/
theorem same_items {n : Nat} {xs ys : List D} {a d : D} {R : D → Prop} (ha : Sq a xs) (hd : Sq d ys) (hl : xs.length = ys.length) (hy : ys.length ≤ 1000000) (hx : ∀ x ∈ xs, okD n x = true) (hy2 : ∀ x ∈ ys, okD n x = true) (r : R (.bl (sameL xs ys))) :
    dRet (dOp fEq (dCB fLen (dCons (dLc (dRng1 (dCons (dCB fLen (dCons (dVar 1) dNil)) dNil)) (dgName 2) (dNot (dTest (dCall (F__law_same (n + 1)) (dCons (dOp fSub (dVar 0) (dVar 2)) (dCons (dOp fSub (dVar 1) (dVar 2)) dNil))))) (dImm (dVar 2)) [2]) dNil)) (dC (.int 0))) { nx := fun _ => R .non, rt := R } [some a, some d, none] := by
  have lenD : ∀ {R : D → Prop}, R (.int (ys.length : Int)) → fLen [d] R := fun {R} h => by
    rcases hd with rfl | rfl <;> exact h
  have subA : ∀ {k : Nat} {R : D → Prop}, k < ys.length → R (xs.getD k .non) → fSub a (.int (k : Int)) R := fun {k R} hk h => by
    have e := at_D (l := xs) (k := k) (by omega)
    rcases ha with rfl | rfl <;> exact ⟨_, e, h⟩
  have subD : ∀ {k : Nat} {R : D → Prop}, k < ys.length → R (ys.getD k .non) → fSub d (.int (k : Int)) R := fun {k R} hk h => by
    have e := at_D (l := ys) hk
    rcases hd with rfl | rfl <;> exact ⟨_, e, h⟩
  simp only [x_var, x_c, x_imm, x_op, x_un, x_cb, x_call, x_nil, x_cons, x_tup, x_lst, x_noPart, x_part, x_sl, x_test, x_and, x_or, x_not, x_yes, x_andV, x_orV, x_notV, x_if, x_it, x_gname, x_seq, x_skip, x_brk, x_cont, x_ret, x_retN, x_drop, x_ifS, x_set, x_setO, x_asg, x_sortSet, x_for, x_get, x_din, x_dnotin, List.set_cons_zero, List.set_cons_succ, List.getElem?_cons_zero, List.getElem?_cons_succ, List.length_cons, List.length_nil, Option.some.injEq, exists_eq_left', D.bl.injEq, D.int.injEq, dLcZ, dRng1, wipeD]
  refine lenD ?_
  refine ⟨by omega, ?_⟩
  rw [show rngD 0 (ys.length : Int) = (List.range ys.length).map dI from rngD_nat _]
  refine ⟨by rw [List.length_map, List.length_range, sizeLine_eq]; omega, by simp, ?_⟩
  refine lcD_fm dI (fun k => !sameD (xs.getD k .non) (ys.getD k .non)) dI (List.range ys.length) [] (fun k hk Q q => ?_) ?_
  · have hk := List.mem_range.mp hk
    simp only [x_var, x_c, x_imm, x_op, x_un, x_cb, x_call, x_nil, x_cons, x_tup, x_lst, x_noPart, x_part, x_sl, x_test, x_and, x_or, x_not, x_yes, x_andV, x_orV, x_notV, x_if, x_it, x_gname, x_seq, x_skip, x_brk, x_cont, x_ret, x_retN, x_drop, x_ifS, x_set, x_setO, x_asg, x_sortSet, x_for, x_get, x_din, x_dnotin, List.set_cons_zero, List.set_cons_succ, List.getElem?_cons_zero, List.getElem?_cons_succ, List.length_cons, List.length_nil, Option.some.injEq, exists_eq_left', D.bl.injEq, D.int.injEq]
    refine subA hk (subD hk ⟨_, _, rfl, hx _ (getD_memD (by omega)), hy2 _ (getD_memD hk), ?_⟩)
    simp only [x_var, x_c, x_imm, x_op, x_un, x_cb, x_call, x_nil, x_cons, x_tup, x_lst, x_noPart, x_part, x_sl, x_test, x_and, x_or, x_not, x_yes, x_andV, x_orV, x_notV, x_if, x_it, x_gname, x_seq, x_skip, x_brk, x_cont, x_ret, x_retN, x_drop, x_ifS, x_set, x_setO, x_asg, x_sortSet, x_for, x_get, x_din, x_dnotin, List.set_cons_zero, List.set_cons_succ, List.getElem?_cons_zero, List.getElem?_cons_succ, List.length_cons, List.length_nil, Option.some.injEq, exists_eq_left', D.bl.injEq, D.int.injEq, imm, true_and]
    cases h : sameD (xs.getD k .non) (ys.getD k .non) <;> (rw [h] at q; simpa using q)
  · rw [List.nil_append]
    have e := sameL_all hl
    simp only [x_var, x_c, x_imm, x_op, x_un, x_cb, x_call, x_nil, x_cons, x_tup, x_lst, x_noPart, x_part, x_sl, x_test, x_and, x_or, x_not, x_yes, x_andV, x_orV, x_notV, x_if, x_it, x_gname, x_seq, x_skip, x_brk, x_cont, x_ret, x_retN, x_drop, x_ifS, x_set, x_setO, x_asg, x_sortSet, x_for, x_get, x_din, x_dnotin, List.set_cons_zero, List.set_cons_succ, List.getElem?_cons_zero, List.getElem?_cons_succ, List.length_cons, List.length_nil, Option.some.injEq, exists_eq_left', D.bl.injEq, D.int.injEq, fLen, List.length_map, fEq, sc, Bool.true_or, true_and, eqb_int]
    have e2 : (decide ((((List.range ys.length).filter fun k => !sameD (xs.getD k .non) (ys.getD k .non)).length : Int) = 0)) = sameL xs ys := by
      rw [e]
      cases h : ((List.range ys.length).filter fun k => !sameD (xs.getD k .non) (ys.getD k .non)) with
      | nil => rfl
      | cons z zs => simp; omega
    rw [e2]
    exact r
theorem sc_bl (a b : Bool) : sc (.bl a) (.bl b) = true := rfl
theorem eqb_bl (a b : Bool) : eqb (.bl a) (.bl b) = decide (a = b) := by cases a <;> cases b <;> rfl
theorem pure__law_same (n : Nat) : ∀ ds R, F__law_same (n + 1) ds R → sem__law_same n { nx := fun _ => R .non, rt := R } (startD 3 ds) := by
  rintro ds R ⟨a, d, rfl, ha, hd, r⟩
  show sem__law_same n _ [some a, some d, none]
  have key : ∀ {xs ys : List D}, Sq a xs → Sq d ys → xs.length = ys.length → R (.bl (sameL xs ys)) → dRet (dOp fEq (dCB fLen (dCons (dLc (dRng1 (dCons (dCB fLen (dCons (dVar 1) dNil)) dNil)) (dgName 2) (dNot (dTest (dCall (F__law_same n) (dCons (dOp fSub (dVar 0) (dVar 2)) (dCons (dOp fSub (dVar 1) (dVar 2)) dNil))))) (dImm (dVar 2)) [2]) dNil)) (dC (.int 0))) { nx := fun _ => R .non, rt := R } [some a, some d, none] := fun {xs ys} sa sd hl r => by
    obtain ⟨k, rfl, h1, h2⟩ := okD_seq (xs := ys) (sd.elim .inr .inl) hd
    obtain ⟨k', hk', h3, h4⟩ := okD_seq (xs := xs) (sa.elim .inr .inl) ha
    have : k' = k := by omega
    subst this
    exact same_items sa sd hl h1 h4 h2 r
  have lenA : ∀ {xs : List D} {R : D → Prop}, Sq a xs → R (.int (xs.length : Int)) → fLen [a] R := fun {xs R} s h => by
    rcases s with rfl | rfl <;> exact h
  have lenD : ∀ {xs : List D} {R : D → Prop}, Sq d xs → R (.int (xs.length : Int)) → fLen [d] R := fun {xs R} s h => by
    rcases s with rfl | rfl <;> exact h
  simp only [sem__law_same, x_var, x_c, x_imm, x_op, x_un, x_cb, x_call, x_nil, x_cons, x_tup, x_lst, x_noPart, x_part, x_sl, x_test, x_and, x_or, x_not, x_yes, x_andV, x_orV, x_notV, x_if, x_it, x_gname, x_seq, x_skip, x_brk, x_cont, x_ret, x_retN, x_drop, x_ifS, x_set, x_setO, x_asg, x_sortSet, x_for, x_get, x_din, x_dnotin, List.set_cons_zero, List.set_cons_succ, List.getElem?_cons_zero, List.getElem?_cons_succ, List.length_cons, List.length_nil, Option.some.injEq, exists_eq_left', D.bl.injEq, D.int.injEq, isi_tuple hd, isi_tuple ha, isi_list hd, isi_list ha, isi_bool hd, isi_bool ha, isi_int hd, isi_int ha, isi_str hd, isi_str ha, fIsN, fNe, sc_bl, eqb_bl, Bool.true_or, true_and]
  have seqCase : ∀ {ys : List D}, Sq d ys → isT d = true ∨ isL d = true → (∀ xs, Sq a xs → isT d = isT a → isL d = isL a → sameD a d = sameL xs ys) → ((isT d ≠ isT a ∨ isL d ≠ isL a) → sameD a d = false) → (isT d = isT a → isL d = isL a → ∃ xs, Sq a xs) →
      (if (!decide (isT d = isT a)) = true then R (.bl false) else if (!decide (isL d = isL a)) = true then R (.bl false) else fLen [a] fun x => fLen [d] fun y => (sc x y || sh 60 x && sh 60 y) = true ∧ if (!eqb x y) = true then R (.bl false) else
        dRet (dOp fEq (dCB fLen (dCons (dLc (dRng1 (dCons (dCB fLen (dCons (dVar 1) dNil)) dNil)) (dgName 2) (dNot (dTest (dCall (F__law_same n) (dCons (dOp fSub (dVar 0) (dVar 2)) (dCons (dOp fSub (dVar 1) (dVar 2)) dNil))))) (dImm (dVar 2)) [2]) dNil)) (dC (.int 0))) { nx := fun _ => R .non, rt := R } [some a, some d, none]) := fun {ys} sd _ h1 h2 h3 => by
    by_cases c1 : isT d = isT a
    · by_cases c2 : isL d = isL a
      · simp only [c1, c2, decide_true, Bool.not_true]
        obtain ⟨xs, sa⟩ := h3 c1 c2
        refine lenA sa ?_
        refine lenD sd ?_
        simp only [sc, eqb_int, Bool.true_or, true_and]
        have hs := h1 xs sa c1 c2
        rw [hs] at r
        by_cases hl : xs.length = ys.length
        · have e : (decide ((xs.length : Int) = (ys.length : Int))) = true := by simp [hl]
          rw [e]
          exact key sa sd hl r
        · have e : (decide ((xs.length : Int) = (ys.length : Int))) = false := by simp; omega
          have e2 : sameL xs ys = false := same_len hl
          rw [e2] at r
          rw [e]
          exact r
      · rw [h2 (.inr c2)] at r
        simp only [c1, c2, decide_true, decide_false, Bool.not_true, Bool.not_false, if_true]
        exact r
    · rw [h2 (.inl c1)] at r
      simp only [c1, decide_false, Bool.not_false, if_true]
      exact r
  cases d with
  | tup ys =>
    have ht : isT (D.tup ys) = true := rfl
    have c := seqCase (ys := ys) (.inr rfl) (.inl rfl) (fun xs sa c1 c2 => by
      rcases sa with rfl | rfl
      · cases c1
      · simp [sameD]) (fun h => by cases a <;> simp [sameD, isT, isL] at h ⊢) (fun c1 c2 => by
      cases a <;> first | exact ⟨_, .inr rfl⟩ | cases c1)
    simp only [ht, if_true] at c ⊢
    exact c
  | lst ys =>
    have ht : isT (D.lst ys) = false := rfl
    have hl : isL (D.lst ys) = true := rfl
    have c := seqCase (ys := ys) (.inl rfl) (.inr rfl) (fun xs sa c1 c2 => by
      rcases sa with rfl | rfl
      · simp [sameD]
      · cases c1) (fun h => by cases a <;> simp [sameD, isT, isL] at h ⊢) (fun c1 c2 => by
      cases a <;> first | exact ⟨_, .inl rfl⟩ | cases c2)
    simp only [ht, hl, if_true, Bool.false_eq_true, if_false] at c ⊢
    exact c
  | non => cases a <;> simpa [isT, isL, isNon, sameD] using r
  | bl b => cases a <;> simpa [isT, isL, isNon, isBl, isI, isS, sameD, fEq, sc, eqb_bl] using r
  | int i => cases a <;> simpa [isT, isL, isNon, isBl, isI, isS, sameD, fEq, sc, eqb_int] using r
  | str w => cases a <;> simpa [isT, isL, isNon, isBl, isI, isS, sameD, fEq, sc, eqb_str] using r
  | _ => cases n <;> (unfold okD at hd; cases hd)
end PD
set_option Elab.async false
set_option linter.all false
set_option maxRecDepth 100000
set_option maxHeartbeats 4000000
namespace PD
open PySem PySem.Spec PyProof.Rows L2
/-! ### codes: rows are read back -/
def Vd (ws : List Wd) (a : List Nat) : Prop := ∀ k ∈ a, k < ws.length
theorem pre_or {a b c d : Wd} (h : a ++ b = c ++ d) : a <+: c ∨ c <+: a := by
  rcases List.append_eq_append_iff.mp h with ⟨x, h1, _⟩ | ⟨x, h1, _⟩
  · exact .inl ⟨x, h1.symm⟩
  · exact .inr ⟨x, h1.symm⟩
theorem vd_cons {ws : List Wd} {k : Nat} {a : List Nat} (h : Vd ws (k :: a)) : k < ws.length ∧ Vd ws a := ⟨h k (List.mem_cons_self ..), fun x m => h x (List.mem_cons_of_mem _ m)⟩
theorem no_rest {ws rs : List Wd} (C : Closed ws rs) : ∀ (N : Nat) (r : Wd) (a b : List Nat), a.length + b.length ≤ N → r ∈ rs → Vd ws a → Vd ws b → spl ws a = r ++ spl ws b → False
  | 0, r, a, b, hN, hr, va, vb, h => by
    have ha : a = [] := List.length_eq_zero_iff.mp (by omega)
    rw [ha, spl_nil] at h
    have : r = [] := (List.append_eq_nil_iff.mp h.symm).1
    exact C.ne (this ▸ hr)
  | N + 1, r, a, b, hN, hr, va, vb, h => by
    match a, va, h, hN with
    | [], va, h, _ =>
      rw [spl_nil] at h
      have : r = [] := (List.append_eq_nil_iff.mp h.symm).1
      exact C.ne (this ▸ hr)
    | k :: a, va, h, hN =>
      obtain ⟨hk, va'⟩ := vd_cons va
      rw [spl_cons] at h
      rw [List.length_cons] at hN
      obtain ⟨c1, c2⟩ := C.clo r hr k hk
      rcases pre_or h with p | p
      · have e := pref_app p
        refine no_rest C N (r.drop (ws.getD k []).length) a b (by omega) (c1 p) va' vb ?_
        rw [e, List.append_assoc] at h
        exact List.append_cancel_left h
      · have e := pref_app p
        refine no_rest C N ((ws.getD k []).drop r.length) b a (by omega) (c2 p) vb va' ?_
        rw [e, List.append_assoc] at h
        exact (List.append_cancel_left h).symm
theorem getD_inj {ws : List Wd} (nd : ws.Nodup) {i j : Nat} (hi : i < ws.length) (hj : j < ws.length) (h : ws.getD i [] = ws.getD j []) : i = j := by
  rw [List.getD_eq_getElem?_getD, List.getD_eq_getElem?_getD, List.getElem?_eq_getElem hi, List.getElem?_eq_getElem hj] at h
  have h : ws[i] = ws[j] := h
  have pw := List.pairwise_iff_getElem.mp nd
  rcases Nat.lt_trichotomy i j with q | q | q
  · exact absurd h (pw i j hi hj q)
  · exact q
  · exact absurd h.symm (pw j i hj hi q)
/-- each word is spelled by one row at most -/
theorem ud_of {ws rs : List Wd} (C : Closed ws rs) (hne : ∀ w ∈ ws, w ≠ []) : ∀ (a b : List Nat), Vd ws a → Vd ws b → spl ws a = spl ws b → a = b
  | [], [], _, _, _ => rfl
  | [], j :: b, _, vb, h => by
    rw [spl_nil, spl_cons] at h
    exact absurd (List.append_eq_nil_iff.mp h.symm).1 (hne _ (getD_mem (vd_cons vb).1))
  | i :: a, [], va, _, h => by
    rw [spl_nil, spl_cons] at h
    exact absurd (List.append_eq_nil_iff.mp h).1 (hne _ (getD_mem (vd_cons va).1))
  | i :: a, j :: b, va, vb, h => by
    obtain ⟨hi, va'⟩ := vd_cons va
    obtain ⟨hj, vb'⟩ := vd_cons vb
    rw [spl_cons, spl_cons] at h
    by_cases e : ws.getD i [] = ws.getD j []
    · have := getD_inj C.nd hi hj e
      subst this
      rw [ud_of C hne a b va' vb' (List.append_cancel_left h)]
    · exfalso
      rcases pre_or h with p | p
      · have e2 := pref_app p
        rw [e2, List.append_assoc] at h
        exact no_rest C _ _ a b (Nat.le_refl _) (C.ini i j hi hj e _ e2) va' vb' (List.append_cancel_left h)
      · have e2 := pref_app p
        rw [e2, List.append_assoc] at h
        exact no_rest C _ _ b a (Nat.le_refl _) (C.ini j i hj hi (fun z => e z.symm) _ e2) vb' va' (List.append_cancel_left h).symm
/-! ### rows of a length -/
/-- all rows whose words make so many letters -/
def rowsOf (ws : List Wd) : Nat → Nat → List (List Nat)
  | 0, n => if n = 0 then [[]] else []
  | f + 1, n => if n = 0 then [[]] else (List.range ws.length).flatMap fun k => if (ws.getD k []).length ≤ n then (rowsOf ws f (n - (ws.getD k []).length)).map (k :: ·) else []
theorem spl_len (ws : List Wd) (a : List Nat) : (spl ws a).length = (a.map fun k => (ws.getD k []).length).sum := by
  unfold spl
  rw [List.length_flatten, List.map_map]
  rfl
theorem mem_rowsOf {ws : List Wd} (hne : ∀ w ∈ ws, w ≠ []) : ∀ (f n : Nat) (a : List Nat), n ≤ f → (a ∈ rowsOf ws f n ↔ Vd ws a ∧ (spl ws a).length = n) := by
  intro f
  induction f with
  | zero =>
    intro n a hf
    have : n = 0 := by omega
    subst this
    unfold rowsOf
    simp only [if_true, List.mem_singleton]
    constructor
    · rintro rfl
      exact ⟨(fun k m => nomatch m), rfl⟩
    · rintro ⟨v, h⟩
      match a, v, h with
      | [], _, _ => rfl
      | k :: a, v, h =>
        rw [spl_cons, List.length_append] at h
        have := List.length_pos_iff.mpr (hne _ (getD_mem (vd_cons v).1))
        omega
  | succ f ih =>
    intro n a hf
    unfold rowsOf
    by_cases hn : n = 0
    · subst hn
      simp only [if_true, List.mem_singleton]
      constructor
      · rintro rfl
        exact ⟨(fun k m => nomatch m), rfl⟩
      · rintro ⟨v, h⟩
        match a, v, h with
        | [], _, _ => rfl
        | k :: a, v, h =>
          rw [spl_cons, List.length_append] at h
          have := List.length_pos_iff.mpr (hne _ (getD_mem (vd_cons v).1))
          omega
    · rw [if_neg hn, List.mem_flatMap]
      constructor
      · rintro ⟨k, hk, h⟩
        have hk := List.mem_range.mp hk
        split at h
        · next hl =>
          obtain ⟨a', ha', rfl⟩ := List.mem_map.mp h
          have hp := List.length_pos_iff.mpr (hne _ (getD_mem hk))
          obtain ⟨v, e⟩ := (ih _ a' (by omega)).mp ha'
          refine ⟨fun x m => (List.mem_cons.mp m).elim (fun z => z ▸ hk) (v x), ?_⟩
          rw [spl_cons, List.length_append, e]
          omega
        · cases h
      · rintro ⟨v, e⟩
        match a, v, e with
        | [], _, e =>
          rw [spl_nil] at e
          exact absurd e.symm hn
        | k :: a, v, e =>
          obtain ⟨hk, v'⟩ := vd_cons v
          rw [spl_cons, List.length_append] at e
          have hp := List.length_pos_iff.mpr (hne _ (getD_mem hk))
          refine ⟨k, List.mem_range.mpr hk, ?_⟩
          rw [if_pos (by omega)]
          exact List.mem_map.mpr ⟨a, (ih _ a (by omega)).mpr ⟨v', by omega⟩, rfl⟩
theorem flatMap_same {α β : Type} {f g : α → List β} : ∀ {l : List α}, (∀ x ∈ l, f x = g x) → l.flatMap f = l.flatMap g
  | [], _ => rfl
  | x :: l, h => by
    rw [List.flatMap_cons, List.flatMap_cons, h x (List.mem_cons_self ..), flatMap_same fun y m => h y (List.mem_cons_of_mem _ m)]
theorem rowsOf_fuel {ws : List Wd} (hne : ∀ w ∈ ws, w ≠ []) : ∀ (f g n : Nat), n ≤ f → n ≤ g → rowsOf ws f n = rowsOf ws g n := by
  intro f
  induction f with
  | zero =>
    intro g n hf hg
    have : n = 0 := by omega
    subst this
    cases g <;> simp [rowsOf]
  | succ f ih =>
    intro g n hf hg
    by_cases hn : n = 0
    · subst hn
      cases g <;> simp [rowsOf]
    · cases g with
      | zero => omega
      | succ g =>
        unfold rowsOf
        rw [if_neg hn, if_neg hn]
        refine flatMap_same fun k hk => ?_
        have hk := List.mem_range.mp hk
        have hp := List.length_pos_iff.mpr (hne _ (getD_mem hk))
        split
        · rw [ih g _ (by omega) (by omega)]
        · rfl
theorem rowsOf_nodup {ws : List Wd} (hne : ∀ w ∈ ws, w ≠ []) : ∀ (f n : Nat), (rowsOf ws f n).Nodup := by
  intro f
  induction f with
  | zero =>
    intro n
    unfold rowsOf
    split <;> simp
  | succ f ih =>
    intro n
    unfold rowsOf
    split
    · simp
    · have key : ∀ ks : List Nat, ks.Nodup → (ks.flatMap fun k => if (ws.getD k []).length ≤ n then (rowsOf ws f (n - (ws.getD k []).length)).map (k :: ·) else []).Nodup := by
        intro ks
        induction ks with
        | nil => intro _; simp
        | cons k ks ih2 =>
          intro nd
          obtain ⟨n1, n2⟩ := List.nodup_cons.mp nd
          rw [List.flatMap_cons]
          refine List.nodup_append.mpr ⟨?_, ih2 n2, fun x hx y hy e => ?_⟩
          · split
            · exact List.pairwise_map.mpr ((ih _).imp fun ne e => ne (by injection e))
            · simp
          · subst e
            split at hx
            · obtain ⟨a, _, rfl⟩ := List.mem_map.mp hx
              obtain ⟨j, hj, h⟩ := List.mem_flatMap.mp hy
              split at h
              · obtain ⟨b, _, e⟩ := List.mem_map.mp h
                injection e with e _
                exact n1 (e ▸ hj)
              · cases h
            · cases hx
      exact key _ List.nodup_range
theorem sum_if {α : Type} (p : α → Bool) (g : α → Nat) : ∀ l : List α, (l.map fun x => if p x = true then g x else 0).sum = ((l.filter p).map g).sum
  | [] => rfl
  | x :: l => by
    rw [List.map_cons, List.sum_cons, sum_if p g l, List.filter_cons]
    cases p x <;> simp
theorem range_ws (ws : List Wd) (g : Wd → Nat) : ((List.range ws.length).map fun k => g (ws.getD k [])).sum = (ws.map g).sum := by
  congr 1
  apply List.ext_getElem
  · simp
  · intro i h1 h2
    have : i < ws.length := by simpa using h1
    simp only [List.getElem_map, List.getElem_range, List.getD_eq_getElem?_getD, List.getElem?_eq_getElem this, Option.getD_some]
/-- the number of rows of a length -/
def nRows (ws : List Wd) (n : Nat) : Nat := (rowsOf ws n n).length
theorem nRows_succ {ws : List Wd} (hne : ∀ w ∈ ws, w ≠ []) (n : Nat) : nRows ws (n + 1) = ((ws.filter fun w => decide (w.length ≤ n + 1)).map fun w => nRows ws (n + 1 - w.length)).sum := by
  unfold nRows
  rw [← sum_if (fun w : Wd => decide (w.length ≤ n + 1)) (fun w => (rowsOf ws (n + 1 - w.length) (n + 1 - w.length)).length) ws, ← range_ws ws fun w => if decide (w.length ≤ n + 1) = true then (rowsOf ws (n + 1 - w.length) (n + 1 - w.length)).length else 0]
  rw [rowsOf, if_neg (by omega), List.length_flatMap]
  congr 1
  apply List.map_congr_left
  intro k hk
  have hk := List.mem_range.mp hk
  have hp := List.length_pos_iff.mpr (hne _ (getD_mem hk))
  by_cases c : (ws.getD k []).length ≤ n + 1
  · simp only [c, decide_true, if_true, List.length_map]
    rw [rowsOf_fuel hne n (n + 1 - (ws.getD k []).length) _ (by omega) (Nat.le_refl _)]
  · simp only [c, decide_false, if_false, List.length_nil, Bool.false_eq_true]
theorem rowsL_eq {ws : List Wd} (hne : ∀ w ∈ ws, w ≠ []) : ∀ m, rowsL ws m = (List.range (m + 1)).map (nRows ws)
  | 0 => rfl
  | m + 1 => by
    unfold rowsL
    rw [rowsL_eq hne m, List.range_succ (n := m + 1), List.map_append]
    congr 1
    simp only [List.map_cons, List.map_nil, List.cons.injEq, and_true]
    rw [nRows_succ hne m]
    congr 1
    apply List.map_congr_left
    intro w hw
    obtain ⟨hw1, hw2⟩ := List.mem_filter.mp hw
    have hp := List.length_pos_iff.mpr (hne w hw1)
    have hlt : m + 1 - w.length < m + 1 := by omega
    rw [List.getD_eq_getElem?_getD, List.getElem?_map, List.getElem?_range hlt]
    rfl
end PD
set_option Elab.async false
set_option linter.all false
set_option maxRecDepth 100000
set_option maxHeartbeats 4000000
namespace PD
open PySem PySem.Spec PyProof.Rows L2
/-! ### what readers count -/
/-- all words of so many letters -/
def wordsL : Nat → List Wd
  | 0 => [[]]
  | n + 1 => [97, 98, 99].flatMap fun c => (wordsL n).map (c :: ·)
theorem mem_wordsL : ∀ {n : Nat} {u : Wd}, u ∈ wordsL n ↔ u.length = n ∧ Abc u
  | 0, u => by
    unfold wordsL
    rw [List.mem_singleton]
    constructor
    · rintro rfl
      exact ⟨rfl, fun c m => nomatch m⟩
    · rintro ⟨h, _⟩
      exact List.length_eq_zero_iff.mp h
  | n + 1, u => by
    unfold wordsL
    rw [List.mem_flatMap]
    constructor
    · rintro ⟨c, hc, h⟩
      obtain ⟨w, hw, rfl⟩ := List.mem_map.mp h
      obtain ⟨h1, h2⟩ := mem_wordsL.mp hw
      refine ⟨by rw [List.length_cons, h1], fun x hx => ?_⟩
      rcases List.mem_cons.mp hx with rfl | hx
      · simpa using hc
      · exact h2 x hx
    · rintro ⟨h1, h2⟩
      match u, h1, h2 with
      | c :: u, h1, h2 =>
        refine ⟨c, by simpa using h2 c (List.mem_cons_self ..), List.mem_map.mpr ⟨u, mem_wordsL.mpr ⟨by simpa using h1, fun x hx => h2 x (List.mem_cons_of_mem _ hx)⟩, rfl⟩⟩
theorem wordsL_nodup : ∀ n, (wordsL n).Nodup
  | 0 => by simp [wordsL]
  | n + 1 => by
    have ih := wordsL_nodup n
    have m : ∀ c : Nat, ((wordsL n).map (c :: ·)).Nodup := fun c => List.pairwise_map.mpr (ih.imp fun ne e => ne (by injection e))
    have dis : ∀ {c d : Nat}, c ≠ d → ∀ x ∈ (wordsL n).map (c :: ·), ∀ y ∈ (wordsL n).map (d :: ·), x ≠ y := fun {c d} ne x hx y hy e => by
      obtain ⟨a, _, rfl⟩ := List.mem_map.mp hx
      obtain ⟨b, _, rfl⟩ := List.mem_map.mp hy
      injection e with e _
      exact ne e
    unfold wordsL
    simp only [List.flatMap_cons, List.flatMap_nil, List.append_nil]
    refine List.nodup_append.mpr ⟨m 97, List.nodup_append.mpr ⟨m 98, m 99, dis (by decide)⟩, fun x hx y hy => ?_⟩
    rcases List.mem_append.mp hy with hy | hy
    · exact dis (by decide) x hx y hy
    · exact dis (by decide) x hx y hy
/-- a run that reads a word, step by step, in a machine whose steps read one letter at most -/
inductive Rd1 (sp : List Stp) : Nat → Wd → Nat → Prop
  | nil (p : Nat) : Rd1 sp p [] p
  | eps {p q r : Nat} {u v : Wd} : (p, [], v, q) ∈ sp → Rd1 sp q u r → Rd1 sp p u r
  | ltr {p q r c : Nat} {u v : Wd} : (p, [c], v, q) ∈ sp → Rd1 sp q u r → Rd1 sp p (c :: u) r
def AccS (h : Mch) (T : List Nat) (u : Wd) : Prop := ∃ q ∈ T, ∃ e ∈ h.en, Rd1 h.sp q u e
theorem eps_rd {sp : List Stp} {p q r : Nat} {u : Wd} (e : Eps sp p q) (h : Rd1 sp q u r) : Rd1 sp p u r := by
  induction e with
  | refl => exact h
  | step _ hs ih => exact ih (.eps hs h)
theorem eps_front {sp : List Stp} {p q r : Nat} {v : Wd} (hs : (p, [], v, q) ∈ sp) (e : Eps sp q r) : Eps sp p r := by
  induction e with
  | refl => exact .step (.refl p) hs
  | step _ h2 ih => exact .step ih h2
theorem rd_cons {sp : List Stp} {p r : Nat} {w : Wd} (h : Rd1 sp p w r) : ∀ {c : Nat} {u : Wd}, w = c :: u → ∃ q q' v, Eps sp p q ∧ (q, [c], v, q') ∈ sp ∧ Rd1 sp q' u r := by
  induction h with
  | nil p => intro c u e; cases e
  | eps hs _ ih =>
    intro c u e
    obtain ⟨q, q', v, h1, h2, h3⟩ := ih e
    exact ⟨q, q', v, eps_front hs h1, h2, h3⟩
  | ltr hs hr _ =>
    intro c u e
    injection e with e1 e2
    subst e1 e2
    exact ⟨_, _, _, .refl _, hs, hr⟩
/-- a run, split behind its first letter -/
theorem rd_nil {sp : List Stp} {p r : Nat} {u : Wd} (h : Rd1 sp p u r) : u = [] → Eps sp p r := by
  induction h with
  | nil p => exact fun _ => .refl p
  | eps hs _ ih =>
    intro e
    have := ih e
    exact eps_front hs this
  | ltr _ _ _ => exact fun e => nomatch e
/-- a set of states that has what its states reach without reading -/
def EClosed (sp : List Stp) (T : List Nat) : Prop := ∀ p ∈ T, ∀ q, Eps sp p q → q ∈ T
theorem eps_trans {sp : List Stp} {p q r : Nat} (a : Eps sp p q) (b : Eps sp q r) : Eps sp p r := by
  induction b with
  | refl => exact a
  | step _ h ih => exact .step ih h
theorem ec_closed {sp : List Stp} {S T : List Nat} (h : ∀ q, q ∈ T ↔ EC sp S q) : EClosed sp T := fun p hp q e => by
  obtain ⟨s, hs, e1⟩ := (h p).mp hp
  exact (h q).mpr ⟨s, hs, eps_trans e1 e⟩
theorem acc_nil {h : Mch} {T : List Nat} (c : EClosed h.sp T) : AccS h T [] ↔ ∃ q ∈ T, q ∈ h.en := by
  constructor
  · rintro ⟨q, hq, e, he, r⟩
    exact ⟨e, c q hq e (rd_nil r rfl), he⟩
  · rintro ⟨q, hq, he⟩
    exact ⟨q, hq, q, he, .nil q⟩
theorem acc_cons {h : Mch} {T T' : List Nat} {c : Nat} {u : Wd} (cl : EClosed h.sp T) (hT : ∀ q, q ∈ T' ↔ EC h.sp (nextS h.sp T c) q) : AccS h T (c :: u) ↔ AccS h T' u := by
  constructor
  · rintro ⟨q, hq, e, he, r⟩
    obtain ⟨p, p', v, h1, h2, h3⟩ := rd_cons r rfl
    refine ⟨p', (hT p').mpr ⟨p', ?_, .refl p'⟩, e, he, h3⟩
    unfold nextS
    exact List.mem_map.mpr ⟨(p, [c], v, p'), List.mem_filter.mpr ⟨h2, by simpa using cl q hq p h1⟩, rfl⟩
  · rintro ⟨q, hq, e, he, r⟩
    obtain ⟨p, hp, h1⟩ := (hT q).mp hq
    unfold nextS at hp
    obtain ⟨⟨a, u', v, b⟩, hs, rfl⟩ := List.mem_map.mp hp
    obtain ⟨h2, h3⟩ := List.mem_filter.mp hs
    simp only [Bool.and_eq_true, decide_eq_true_eq] at h3
    obtain ⟨rfl, h4⟩ := h3
    exact ⟨a, h4, e, he, .ltr h2 (eps_rd h1 r)⟩
open Classical in
/-- the reader's counts are numbers of words read -/
theorem cnt_words {h : Mch} {rows : List (List Nat)} {ends : List Nat} {Ts : List (List Nat)} (K : RdOk h rows ends Ts) : ∀ (n k : Nat) (T : List Nat), Ts[k]? = some T → EClosed h.sp T → cnt rows ends n k = ((wordsL n).filter fun u => decide (AccS h T u)).length
  | 0, k, T, hk, cl => by
    have e := K.ends k
    have a := acc_nil (h := h) cl
    by_cases c : AccS h T []
    · have : k ∈ ends := e.mpr ⟨T, hk, a.mp c⟩
      simp [cnt, this, wordsL, c]
    · have : k ∉ ends := fun z => by
        obtain ⟨T', h1, h2⟩ := e.mp z
        rw [hk] at h1
        cases h1
        exact c (a.mpr h2)
      simp [cnt, this, wordsL, c]
  | n + 1, k, T, hk, cl => by
    have hkl : k < rows.length := by
      rw [K.len]
      exact (List.getElem?_eq_some_iff.mp hk).1
    obtain ⟨hl, hr⟩ := K.row k rows[k] T (List.getElem?_eq_getElem hkl) hk
    have eg : rows.getD k [] = rows[k] := by
      rw [List.getD_eq_getElem?_getD, List.getElem?_eq_getElem hkl]
      rfl
    have part : ∀ j : Nat, j < 3 → ∃ r, rows[k][j]? = some r ∧ cnt rows ends n r = (((wordsL n).map ((97 + j) :: ·)).filter fun u => decide (AccS h T u)).length := fun j hj => by
      have hj2 : j < rows[k].length := by omega
      obtain ⟨T', h1, h2⟩ := hr j rows[k][j] (List.getElem?_eq_getElem hj2)
      refine ⟨rows[k][j], List.getElem?_eq_getElem hj2, ?_⟩
      rw [cnt_words K n _ T' h1 (ec_closed h2), List.filter_map, List.length_map]
      congr 1
      apply List.filter_congr
      intro u _
      have := acc_cons (u := u) cl h2
      simp only [Function.comp, this]
    obtain ⟨r0, a0, b0⟩ := part 0 (by decide)
    obtain ⟨r1, a1, b1⟩ := part 1 (by decide)
    obtain ⟨r2, a2, b2⟩ := part 2 (by decide)
    have er : rows[k] = [r0, r1, r2] := by
      match hh : rows[k], hl with
      | [x, y, z], _ =>
        rw [hh] at a0 a1 a2
        simp at a0 a1 a2
        rw [a0, a1, a2]
    unfold cnt wordsL
    rw [eg, er]
    simp only [List.map_cons, List.map_nil, List.sum_cons, List.sum_nil, List.flatMap_cons, List.flatMap_nil, List.append_nil, List.filter_append, List.length_append]
    rw [b0, b1, b2]
    rfl
end PD
set_option Elab.async false
set_option linter.all false
set_option maxRecDepth 100000
set_option maxHeartbeats 4000000
namespace PD
open PySem PySem.Spec PyProof.Rows L2
/-! ### runs of machines, and of their fine machines -/
inductive Run (sp : List Stp) : Nat → Wd → Wd → Nat → Prop
  | nil (p : Nat) : Run sp p [] [] p
  | cons {p q r : Nat} {u v u' v' : Wd} : (p, u, v, q) ∈ sp → Run sp q u' v' r → Run sp p (u ++ u') (v ++ v') r
theorem Run.app {sp : List Stp} {p q r : Nat} {u v u' v' : Wd} (a : Run sp p u v q) (b : Run sp q u' v' r) : Run sp p (u ++ u') (v ++ v') r := by
  induction a with
  | nil => exact b
  | cons h _ ih =>
    rw [List.append_assoc, List.append_assoc]
    exact .cons h (ih b)
theorem Run.one {sp : List Stp} {p q : Nat} {u v : Wd} (h : (p, u, v, q) ∈ sp) : Run sp p u v q := by
  have := Run.cons h (.nil q)
  rwa [List.append_nil, List.append_nil] at this
theorem Run.mono {sp sp' : List Stp} (k : ∀ s ∈ sp, s ∈ sp') {p q : Nat} {u v : Wd} (h : Run sp p u v q) : Run sp' p u v q := by
  induction h with
  | nil => exact .nil _
  | cons h _ ih => exact .cons (k _ h) ih
theorem tailC_run {sp : List Stp} (q : Nat) : ∀ (w : Wd) (n : Nat), w ≠ [] → (∀ s ∈ tailC q n w, s ∈ sp) → Run sp n w [] q
  | [b], n, _, h => Run.one (h _ (by simp [tailC]))
  | b :: c :: r, n, _, h => by
    have h1 : (n, [b], [], n + 1) ∈ sp := h _ (by unfold tailC; exact List.mem_cons_self ..)
    have h2 := tailC_run q (c :: r) (n + 1) (by simp) fun s hs => h s (by unfold tailC; exact List.mem_cons_of_mem _ hs)
    exact .cons h1 h2
theorem cutS_run {sp : List Stp} {n : Nat} {s : Stp} (h : ∀ t ∈ cutS n s, t ∈ sp) : Run sp s.1 s.2.1 s.2.2.1 s.2.2.2 := by
  obtain ⟨p, u, v, q⟩ := s
  match u, h with
  | [], h => exact Run.one (h _ (by simp [cutS]))
  | [a], h => exact Run.one (h _ (by simp [cutS]))
  | a :: b :: r, h =>
    have e : cutS n (p, a :: b :: r, v, q) = (p, [a], v, n) :: tailC q n (b :: r) := rfl
    rw [e] at h
    have h1 := h _ (List.mem_cons_self ..)
    have h2 := tailC_run q (b :: r) n (by simp) fun s hs => h s (List.mem_cons_of_mem _ hs)
    have := Run.cons h1 h2
    rwa [List.append_nil] at this
theorem fineL_step {s : Stp} : ∀ {l : List Stp} {n : Nat}, s ∈ l → ∃ k, ∀ t ∈ cutS k s, t ∈ fineL n l
  | [], n, h => nomatch h
  | x :: l, n, h => by
    rcases List.mem_cons.mp h with rfl | h
    · exact ⟨n, fun t ht => by unfold fineL; exact List.mem_append_left _ ht⟩
    · obtain ⟨k, hk⟩ := fineL_step (n := n + moreS x) h
      exact ⟨k, fun t ht => by unfold fineL; exact List.mem_append_right _ (hk t ht)⟩
/-- what the machine does its fine machine does -/
theorem run_fine {l : List Stp} {n p r : Nat} {u v : Wd} (h : Run l p u v r) : Run (fineL n l) p u v r := by
  induction h with
  | nil => exact .nil _
  | @cons p q r u v u' v' hs _ ih =>
    obtain ⟨k, hk⟩ := fineL_step (n := n) hs
    exact (cutS_run (s := (p, u, v, q)) hk).app ih
/-- where a new state stands: the letters still to be read, and the state behind them -/
def posOf : Nat → List Stp → Nat → Option (Wd × Nat)
  | _, [], _ => none
  | n, s :: r, x => if x < n + moreS s then some (s.2.1.drop (x - n + 1), s.2.2.2) else posOf (n + moreS s) r x
/-- the steps of a tail: each stands at its letter -/
theorem mem_tailC {q : Nat} {s : Stp} : ∀ {w : Wd} {n : Nat}, s ∈ tailC q n w → ∃ i c r, i < w.length ∧ w.drop i = c :: r ∧ s.1 = n + i ∧ s.2.1 = [c] ∧ s.2.2.1 = [] ∧ ((r = [] ∧ s.2.2.2 = q) ∨ (r ≠ [] ∧ s.2.2.2 = n + i + 1))
  | [], n, h => by simp [tailC] at h
  | [b], n, h => by
    simp only [tailC, List.mem_singleton] at h
    subst h
    exact ⟨0, b, [], by simp, rfl, rfl, rfl, rfl, .inl ⟨rfl, rfl⟩⟩
  | b :: c :: r, n, h => by
    unfold tailC at h
    rcases List.mem_cons.mp h with h | h
    · subst h
      exact ⟨0, b, c :: r, by simp, rfl, rfl, rfl, rfl, .inr ⟨by simp, rfl⟩⟩
    · obtain ⟨i, d, r', h1, h2, h3, h4, h5, h6⟩ := mem_tailC h
      refine ⟨i + 1, d, r', by simpa using h1, by simpa using h2, by omega, h4, h5, ?_⟩
      rcases h6 with ⟨a, b⟩ | ⟨a, b⟩
      · exact .inl ⟨a, b⟩
      · exact .inr ⟨a, by omega⟩
theorem posOf_ge {l : List Stp} : ∀ {n x : Nat} {p : Wd × Nat}, posOf n l x = some p → x < n + sumM l := by
  induction l with
  | nil => intro n x p h; cases h
  | cons s l ih =>
    intro n x p h
    have e : sumM (s :: l) = moreS s + sumM l := by simp [sumM]
    unfold posOf at h
    split at h
    · omega
    · have := ih h
      omega
/-- the steps of a fine machine -/
theorem mem_fineL {s : Stp} {many : Nat} : ∀ {l : List Stp} {n : Nat}, many ≤ n → (∀ t ∈ l, t.1 < many ∧ t.2.2.2 < many) → s ∈ fineL n l →
    (∃ t ∈ l, s.1 = t.1 ∧ s.2.2.1 = t.2.2.1 ∧ (s = t ∨ ∃ c w, t.2.1 = c :: w ∧ s.2.1 = [c] ∧ n ≤ s.2.2.2 ∧ posOf n l s.2.2.2 = some (w, t.2.2.2))) ∨
    (n ≤ s.1 ∧ s.2.2.1 = [] ∧ ∃ c w q, posOf n l s.1 = some (c :: w, q) ∧ q < many ∧ s.2.1 = [c] ∧ ((w = [] ∧ s.2.2.2 = q) ∨ (n ≤ s.2.2.2 ∧ posOf n l s.2.2.2 = some (w, q))))
  | [], n, _, _, h => by simp [fineL] at h
  | t :: l, n, hn, hl, h => by
    have ht := hl t (List.mem_cons_self ..)
    unfold fineL at h
    rcases List.mem_append.mp h with h | h
    · unfold cutS at h
      split at h
      · next a b r e =>
        have hm : moreS t = r.length + 1 := by unfold moreS; rw [e]; simp
        have pos : ∀ i, i < moreS t → posOf n (t :: l) (n + i) = some ((b :: r).drop i, t.2.2.2) := fun i hi => by
          unfold posOf
          rw [if_pos (by omega)]
          have : n + i - n + 1 = i + 1 := by omega
          rw [this, e]
          rfl
        rcases List.mem_cons.mp h with h | h
        · subst h
          refine .inl ⟨t, List.mem_cons_self .., rfl, rfl, .inr ⟨a, b :: r, e, rfl, Nat.le_refl _, ?_⟩⟩
          have := pos 0 (by omega)
          rwa [Nat.add_zero] at this
        · obtain ⟨i, c, r', h1, h2, h3, h4, h5, h6⟩ := mem_tailC h
          simp only [List.length_cons] at h1
          have p1 := pos i (by omega)
          rw [h2] at p1
          refine .inr ⟨by omega, h5, c, r', t.2.2.2, by rw [h3]; exact p1, ht.2, h4, ?_⟩
          rcases h6 with ⟨x, y⟩ | ⟨x, y⟩
          · exact .inl ⟨x, y⟩
          · refine .inr ⟨by omega, ?_⟩
            have hr : (b :: r).drop (i + 1) = r' := by
              have := congrArg List.tail h2
              simpa using this
            have hi : i + 1 < moreS t := by
              have := congrArg List.length hr
              rw [List.length_drop, List.length_cons] at this
              have := List.length_pos_iff.mpr x
              omega
            have p2 := pos (i + 1) hi
            rw [hr] at p2
            rw [y]
            exact p2
      · rw [List.mem_singleton.mp h]
        exact .inl ⟨t, List.mem_cons_self .., rfl, rfl, .inl rfl⟩
    · have up : ∀ x p, n + moreS t ≤ x → posOf (n + moreS t) l x = some p → posOf n (t :: l) x = some p := fun x p hx hp => by
        unfold posOf
        rw [if_neg (by omega)]
        exact hp
      rcases mem_fineL (by omega) (fun t ht => hl t (List.mem_cons_of_mem _ ht)) h with ⟨t', ht', e1, e2, e3⟩ | ⟨e1, e2, c, w, q, e3, e4, e5, e6⟩
      · refine .inl ⟨t', List.mem_cons_of_mem _ ht', e1, e2, ?_⟩
        rcases e3 with e3 | ⟨c, w, f1, f2, f3, f4⟩
        · exact .inl e3
        · exact .inr ⟨c, w, f1, f2, by omega, up _ _ f3 f4⟩
      · refine .inr ⟨by omega, e2, c, w, q, up _ _ e1 e3, e4, e5, ?_⟩
        rcases e6 with e6 | ⟨f1, f2⟩
        · exact .inl e6
        · exact .inr ⟨by omega, up _ _ f1 f2⟩
/-- what the fine machine does the machine does -/
theorem fine_run {l : List Stp} {many : Nat} (hl : ∀ t ∈ l, t.1 < many ∧ t.2.2.2 < many) {p r : Nat} {u v : Wd} (h : Run (fineL many l) p u v r) (hr : r < many) :
    (p < many → Run l p u v r) ∧ (many ≤ p → ∀ w q, posOf many l p = some (w, q) → ∃ u', u = w ++ u' ∧ Run l q u' v r) := by
  induction h with
  | nil p => exact ⟨fun _ => .nil p, fun h => by omega⟩
  | @cons p q r u v u' v' hs _ ih =>
    obtain ⟨i1, i2⟩ := ih hr
    rcases mem_fineL (Nat.le_refl _) hl hs with ⟨t, ht, e1, e2, e3⟩ | ⟨e1, e2, c, w, q', e3, e4, e5, e6⟩
    · simp only at e1 e2
      refine ⟨fun _ => ?_, fun h => by have := (hl t ht).1; omega⟩
      rcases e3 with e3 | ⟨c, w, f1, f2, f3, f4⟩
      · subst e3
        exact .cons ht (i1 (hl _ ht).2)
      · simp only at f2 f3 f4
        obtain ⟨u2, g1, g2⟩ := i2 f3 _ _ f4
        rw [f2, g1, e1, e2]
        have e7 : [c] ++ (w ++ u2) = (c :: w) ++ u2 := rfl
        rw [e7, ← f1]
        exact .cons (p := t.1) (q := t.2.2.2) ht g2
    · simp only at e1 e2 e3 e5 e6
      refine ⟨fun h => by omega, fun _ w0 q0 h0 => ?_⟩
      rw [e3] at h0
      simp only [Option.some.injEq, Prod.mk.injEq] at h0
      obtain ⟨rfl, rfl⟩ := h0
      rw [e2, e5]
      rcases e6 with ⟨f1, f2⟩ | ⟨f1, f2⟩
      · subst f1 f2
        exact ⟨u', rfl, i1 e4⟩
      · obtain ⟨u2, g1, g2⟩ := i2 f1 _ _ f2
        exact ⟨u2, by rw [g1]; rfl, g2⟩
end PD
set_option Elab.async false
set_option linter.all false
set_option maxRecDepth 100000
set_option maxHeartbeats 4000000
namespace PD
open PySem PySem.Spec PyProof.Rows L2
/-! ### fine machines and their readers -/
theorem rd_run {sp : List Stp} {p r : Nat} {u : Wd} (h : Rd1 sp p u r) : ∃ v, Run sp p u v r := by
  induction h with
  | nil p => exact ⟨[], .nil p⟩
  | eps hs _ ih =>
    obtain ⟨v, hv⟩ := ih
    exact ⟨_, .cons hs hv⟩
  | ltr hs _ ih =>
    obtain ⟨v, hv⟩ := ih
    exact ⟨_, .cons hs hv⟩
theorem run_rd {sp : List Stp} (h1 : ∀ s ∈ sp, s.2.1.length ≤ 1) {p r : Nat} {u v : Wd} (h : Run sp p u v r) : Rd1 sp p u r := by
  induction h with
  | nil p => exact .nil p
  | @cons p q r u v u' v' hs _ ih =>
    have := h1 _ hs
    match u, hs, this with
    | [], hs, _ => exact .eps hs ih
    | [c], hs, _ => exact .ltr hs ih
theorem tailC_one {q : Nat} {s : Stp} : ∀ {w : Wd} {n : Nat}, s ∈ tailC q n w → s.2.1.length ≤ 1 := fun h => by
  obtain ⟨i, c, r, _, _, _, h4, _⟩ := mem_tailC h
  rw [h4]
  exact Nat.le_refl _
theorem cutS_one {s t : Stp} {n : Nat} (h : t ∈ cutS n s) : t.2.1.length ≤ 1 := by
  unfold cutS at h
  split at h
  · rcases List.mem_cons.mp h with h | h
    · subst h
      exact Nat.le_refl _
    · exact tailC_one h
  · next hh =>
    rw [List.mem_singleton.mp h]
    obtain ⟨p, u, v, q⟩ := s
    match u, hh with
    | [], _ => simp
    | [a], _ => simp
    | a :: b :: r, hh => exact absurd rfl (hh a b r)
theorem fineL_one {t : Stp} : ∀ {l : List Stp} {n : Nat}, t ∈ fineL n l → t.2.1.length ≤ 1
  | [], n, h => by simp [fineL] at h
  | s :: l, n, h => by
    unfold fineL at h
    rcases List.mem_append.mp h with h | h
    · exact cutS_one h
    · exact fineL_one h
/-- what the reader of a machine accepts at its start -/
theorem acc_start {m h : Mch} {N : Nat} {T : List Nat} (o : Ord h N m.st (fineL m.many m.sp) m.en) (hT : ∀ q, q ∈ T ↔ EC h.sp h.st q)
    (hs : ∀ p ∈ m.st, p < m.many) (he : ∀ p ∈ m.en, p < m.many) (hp : ∀ s ∈ m.sp, s.1 < m.many ∧ s.2.2.2 < m.many) (u : Wd) :
    AccS h T u ↔ ∃ p ∈ m.st, ∃ e ∈ m.en, ∃ v, Run m.sp p u v e := by
  have hm : ∀ s, s ∈ h.sp ↔ s ∈ fineL m.many m.sp := o.sp
  constructor
  · rintro ⟨q, hq, e, h1, r⟩
    obtain ⟨p, h2, ep⟩ := (hT q).mp hq
    obtain ⟨v, rv⟩ := rd_run (eps_rd ep r)
    have rv2 : Run (fineL m.many m.sp) p u v e := rv.mono fun s hs => (hm s).mp hs
    have h3 := (o.st p).mp h2
    have h4 := (o.en e).mp h1
    exact ⟨p, h3, e, h4, v, (fine_run hp rv2 (he e h4)).1 (hs p h3)⟩
  · rintro ⟨p, h1, e, h2, v, r⟩
    have r2 := (run_fine (n := m.many) r).mono fun s hs => (hm s).mpr hs
    have r3 := run_rd (fun s hs => fineL_one ((hm s).mp hs)) r2
    exact ⟨p, (hT p).mpr ⟨p, (o.st p).mpr h1, .refl p⟩, e, (o.en e).mpr h2, r3⟩
/-! ### the exchanged coder -/
def cSteps (ws : List Wd) : List Stp := (List.range (min 3 ws.length)).map fun k => (0, ws.getD k [], [97 + k], 0)
/-- what the law knows of the exchanged coder -/
structure Cdr (ws : List Wd) (m : Mch) : Prop where
  many : m.many = 1
  st : m.st = [0]
  en : m.en = [0]
  spN : m.sp.Nodup
  sp : ∀ x, x ∈ m.sp ↔ x ∈ cSteps ws
theorem one_of {l : List Nat} (a : Asc l) (h : ∀ x, x ∈ l ↔ x ∈ [0]) : l = [0] := by
  match l, a, h with
  | [], _, h => exact absurd ((h 0).mpr (by simp)) (by simp)
  | [x], _, h => rw [List.mem_singleton.mp ((h x).mp (by simp))]
  | x :: y :: l, a, h =>
    have h1 := List.mem_singleton.mp ((h x).mp (by simp))
    have h2 := List.mem_singleton.mp ((h y).mp (by simp))
    have := List.rel_of_pairwise_cons a (List.mem_cons_self (a := y) (l := l))
    omega
theorem cdr_of {ws : List Wd} {c m : Mch} (oc : Ord c 1 [0] ((List.range (min 3 ws.length)).map fun k => (0, [97 + k], ws.getD k [], 0)) [0]) (om : Ord m c.many c.st (c.sp.map swapS) c.en) : Cdr ws m := by
  have e1 := one_of oc.stA oc.st
  have e2 := one_of oc.enA oc.en
  refine ⟨by rw [om.many, oc.many], one_of om.stA fun x => by rw [om.st, e1], one_of om.enA fun x => by rw [om.en, e2], om.spN, fun x => ?_⟩
  rw [om.sp, List.mem_map]
  unfold cSteps
  constructor
  · rintro ⟨s, hs, rfl⟩
    have := (oc.sp s).mp hs
    obtain ⟨k, hk, rfl⟩ := List.mem_map.mp this
    exact List.mem_map.mpr ⟨k, hk, rfl⟩
  · intro h
    obtain ⟨k, hk, rfl⟩ := List.mem_map.mp h
    exact ⟨(0, [97 + k], ws.getD k [], 0), (oc.sp _).mpr (List.mem_map.mpr ⟨k, hk, rfl⟩), rfl⟩
theorem mem_cSteps {ws : List Wd} (h3 : ws.length ≤ 3) {s : Stp} : s ∈ cSteps ws ↔ ∃ k, k < ws.length ∧ s = (0, ws.getD k [], [97 + k], 0) := by
  unfold cSteps
  rw [List.mem_map]
  constructor
  · rintro ⟨k, hk, rfl⟩
    have := List.mem_range.mp hk
    exact ⟨k, by omega, rfl⟩
  · rintro ⟨k, hk, rfl⟩
    exact ⟨k, List.mem_range.mpr (by omega), rfl⟩
def ltrs (a : List Nat) : Wd := a.map (97 + ·)
theorem ltrs_inj {a b : List Nat} (h : ltrs a = ltrs b) : a = b := by
  unfold ltrs at h
  exact (List.map_inj_right (fun x y e => by omega)).mp h
theorem cdr_run {ws : List Wd} {m : Mch} (C : Cdr ws m) (h3 : ws.length ≤ 3) {p r : Nat} {u v : Wd} (h : Run m.sp p u v r) : ∃ a, Vd ws a ∧ u = spl ws a ∧ v = ltrs a := by
  induction h with
  | nil p => exact ⟨[], (fun x m => nomatch m), rfl, rfl⟩
  | cons hs _ ih =>
    obtain ⟨a, h1, h2, h3'⟩ := ih
    obtain ⟨k, hk, e⟩ := (mem_cSteps h3).mp ((C.sp _).mp hs)
    simp only [Prod.mk.injEq] at e
    obtain ⟨_, rfl, rfl, _⟩ := e
    refine ⟨k :: a, fun x mx => (List.mem_cons.mp mx).elim (fun z => z ▸ hk) (h1 x), by rw [spl_cons, h2], by rw [h3']; rfl⟩
theorem run_cdr {ws : List Wd} {m : Mch} (C : Cdr ws m) (h3 : ws.length ≤ 3) : ∀ {a : List Nat}, Vd ws a → Run m.sp 0 (spl ws a) (ltrs a) 0
  | [], _ => .nil 0
  | k :: a, h => by
    obtain ⟨h1, h2⟩ := vd_cons h
    have : (0, ws.getD k [], [97 + k], 0) ∈ m.sp := (C.sp _).mpr ((mem_cSteps h3).mpr ⟨k, h1, rfl⟩)
    have r := Run.cons this (run_cdr C h3 h2)
    rw [spl_cons]
    exact r
theorem cdr_bounds {ws : List Wd} {m : Mch} (C : Cdr ws m) (h3 : ws.length ≤ 3) : m.sp.length = ws.length ∧ sumM m.sp = (ws.map fun w => w.length - 1).sum := by
  have nd : (cSteps ws).Nodup := by
    unfold cSteps
    refine List.pairwise_map.mpr (List.nodup_range.imp fun {a b} ne e => ne ?_)
    simp only [Prod.mk.injEq, List.cons.injEq] at e
    omega
  have pm : m.sp.Perm (cSteps ws) := (List.perm_ext_iff_of_nodup C.spN nd).mpr C.sp
  refine ⟨by rw [pm.length_eq]; simp [cSteps]; omega, ?_⟩
  unfold sumM
  rw [(pm.map moreS).sum_nat]
  unfold cSteps
  rw [List.map_map, show min 3 ws.length = ws.length by omega, ← range_ws ws fun w => w.length - 1]
  rfl
/-- what the reader of the exchanged coder accepts -/
theorem acc_cdr {ws : List Wd} {m h : Mch} {N : Nat} {T : List Nat} (C : Cdr ws m) (h3 : ws.length ≤ 3) (o : Ord h N m.st (fineL m.many m.sp) m.en) (hT : ∀ q, q ∈ T ↔ EC h.sp h.st q) (u : Wd) :
    AccS h T u ↔ ∃ a, Vd ws a ∧ spl ws a = u := by
  have lt : ∀ p ∈ m.st, p < m.many := fun p hp => by
    rw [C.st] at hp
    rw [C.many, List.mem_singleton.mp hp]
    decide
  have lt2 : ∀ p ∈ m.en, p < m.many := fun p hp => by
    rw [C.en] at hp
    rw [C.many, List.mem_singleton.mp hp]
    decide
  have lt3 : ∀ s ∈ m.sp, s.1 < m.many ∧ s.2.2.2 < m.many := fun s hs => by
    obtain ⟨k, _, rfl⟩ := (mem_cSteps h3).mp ((C.sp s).mp hs)
    rw [C.many]
    exact ⟨Nat.zero_lt_one, Nat.zero_lt_one⟩
  rw [acc_start o hT lt lt2 lt3]
  constructor
  · rintro ⟨p, _, e, _, v, r⟩
    obtain ⟨a, h1, h2, _⟩ := cdr_run C h3 r
    exact ⟨a, h1, h2.symm⟩
  · rintro ⟨a, h1, rfl⟩
    exact ⟨0, by rw [C.st]; simp, 0, by rw [C.en]; simp, _, run_cdr C h3 h1⟩
/-! ### told and due -/
open Classical in
/-- words of a length that some row spells -/
noncomputable def spelt (ws : List Wd) (n : Nat) : List Wd := (wordsL n).filter fun u => decide (∃ a, Vd ws a ∧ spl ws a = u)
open Classical in
theorem mem_spelt {ws : List Wd} {n : Nat} {u : Wd} : u ∈ spelt ws n ↔ (u.length = n ∧ Abc u) ∧ ∃ a, Vd ws a ∧ spl ws a = u := by
  unfold spelt
  rw [List.mem_filter, mem_wordsL]
  simp
theorem spelt_nodup (ws : List Wd) (n : Nat) : (spelt ws n).Nodup := List.Pairwise.filter _ (wordsL_nodup n)
open Classical in
theorem told_spelt {ws : List Wd} {m h : Mch} {N : Nat} {rows : List (List Nat)} {ends : List Nat} {Ts : List (List Nat)} (C : Cdr ws m) (h3 : ws.length ≤ 3) (o : Ord h N m.st (fineL m.many m.sp) m.en) (K : RdOk h rows ends Ts) (n : Nat) :
    cnt rows ends n 0 = (spelt ws n).length := by
  obtain ⟨T, h1, h2⟩ := K.start
  rw [cnt_words K n 0 T h1 (ec_closed h2)]
  unfold spelt
  congr 1
  apply List.filter_congr
  intro u _
  have := acc_cdr C h3 o h2 u
  simp only [this]
theorem spl_abc {ws : List Wd} (ha : ∀ w ∈ ws, Abc w) : ∀ {a : List Nat}, Vd ws a → Abc (spl ws a)
  | [], _ => fun x m => nomatch m
  | k :: a, h => by
    obtain ⟨h1, h2⟩ := vd_cons h
    rw [spl_cons]
    intro c hc
    rcases List.mem_append.mp hc with hc | hc
    · exact ha _ (getD_mem h1) c hc
    · exact spl_abc ha h2 c hc
theorem told_le {ws : List Wd} (hne : ∀ w ∈ ws, w ≠ []) (n : Nat) : (spelt ws n).length ≤ nRows ws n := by
  have := nodup_len (spelt ws n) ((rowsOf ws n n).map (spl ws)) (spelt_nodup ws n) fun u hu => by
    obtain ⟨⟨h1, _⟩, a, h3, rfl⟩ := mem_spelt.mp hu
    exact List.mem_map.mpr ⟨a, (mem_rowsOf hne n n a (Nat.le_refl _)).mpr ⟨h3, h1⟩, rfl⟩
  rwa [List.length_map] at this
theorem told_eq {ws rs : List Wd} (hne : ∀ w ∈ ws, w ≠ []) (ha : ∀ w ∈ ws, Abc w) (Cl : Closed ws rs) (n : Nat) : (spelt ws n).length = nRows ws n := by
  refine Nat.le_antisymm (told_le hne n) ?_
  have nd : ((rowsOf ws n n).map (spl ws)).Nodup := by
    refine List.pairwise_map.mpr (List.Pairwise.imp_of_mem (fun {a b} ma mb ne e => ne ?_) (rowsOf_nodup hne n n))
    exact ud_of Cl hne a b ((mem_rowsOf hne n n a (Nat.le_refl _)).mp ma).1 ((mem_rowsOf hne n n b (Nat.le_refl _)).mp mb).1 e
  have := nodup_len _ (spelt ws n) nd fun u hu => by
    obtain ⟨a, h1, rfl⟩ := List.mem_map.mp hu
    obtain ⟨h2, h3⟩ := (mem_rowsOf hne n n a (Nat.le_refl _)).mp h1
    exact mem_spelt.mpr ⟨⟨h3, spl_abc ha h2⟩, a, h2, rfl⟩
  rwa [List.length_map] at this
theorem told_lt {ws : List Wd} (hne : ∀ w ∈ ws, w ≠ []) {s l : List Nat} (vs : Vd ws s) (vl : Vd ws l) (e : spl ws s = spl ws l) (ne : s ≠ l) : (spelt ws (spl ws s).length).length < nRows ws (spl ws s).length := by
  have ms := (mem_rowsOf hne _ _ s (Nat.le_refl _)).mpr ⟨vs, rfl⟩
  have ml := (mem_rowsOf hne _ _ l (Nat.le_refl _)).mpr ⟨vl, congrArg List.length e.symm⟩
  have hl := List.length_erase_of_mem ms
  have pos := List.length_pos_of_mem ms
  have := nodup_len (spelt ws (spl ws s).length) (((rowsOf ws (spl ws s).length (spl ws s).length).erase s).map (spl ws)) (spelt_nodup ws _) fun u hu => by
    obtain ⟨⟨h1, _⟩, a, h3, rfl⟩ := mem_spelt.mp hu
    have ma := (mem_rowsOf hne _ _ a (Nat.le_refl _)).mpr ⟨h3, h1⟩
    by_cases c : a = s
    · subst c
      exact List.mem_map.mpr ⟨l, (List.mem_erase_of_ne (Ne.symm ne)).mpr ml, e.symm⟩
    · exact List.mem_map.mpr ⟨a, (List.mem_erase_of_ne c).mpr ma, rfl⟩
  rw [List.length_map, hl] at this
  unfold nRows
  omega
end PD
set_option Elab.async false
set_option linter.all false
set_option maxRecDepth 100000
set_option maxHeartbeats 4000000
namespace PD
open PySem PySem.Spec PyProof.Rows L2
/-! ### what the exchanged coder answers -/
def OutOf (ws : List Wd) (word : Wd) (most : Nat) (t : Out) : Prop := ∃ a, Vd ws a ∧ spl ws a <+: word ∧ t = ((spl ws a).length, ltrs a, 0) ∧ a.length ≤ most
theorem oreach_of {ws : List Wd} {m : Mch} {word : Wd} {most : Nat} (C : Cdr ws m) (h3 : ws.length ≤ 3) {t : Out} (h : OReach m word most t) : OutOf ws word most t := by
  induction h with
  | start hq =>
    rw [C.st] at hq
    rw [List.mem_singleton.mp hq]
    exact ⟨[], (fun x m => nomatch m), List.nil_prefix, rfl, Nat.zero_le _⟩
  | step _ hs ih =>
    obtain ⟨a, h1, h2, rfl, h4⟩ := ih
    obtain ⟨u, v, q, s1, rfl, s3, s4⟩ := hs
    obtain ⟨k, hk, e⟩ := (mem_cSteps h3).mp ((C.sp _).mp s1)
    simp only [Prod.mk.injEq] at e
    obtain ⟨_, rfl, rfl, rfl⟩ := e
    simp only at s3 s4
    have e1 : spl ws (a ++ [k]) = spl ws a ++ ws.getD k [] := by
      rw [spl_app, spl_cons, spl_nil, List.append_nil]
    have e2 : ltrs (a ++ [k]) = ltrs a ++ [97 + k] := by simp [ltrs]
    refine ⟨a ++ [k], fun x hx => ?_, ?_, ?_, ?_⟩
    · rcases List.mem_append.mp hx with hx | hx
      · exact h1 x hx
      · rw [List.mem_singleton.mp hx]
        exact hk
    · obtain ⟨r, hr⟩ := h2
      rw [← hr, List.drop_left] at s3
      rw [e1, ← hr]
      rw [← s3, List.prefix_append_right_inj]
      rw [s3]
      exact ⟨_, by rw [← s3]; exact List.take_append_drop (ws.getD k []).length r⟩
    · rw [e1, e2, List.length_append]
    · rw [← e2] at s4
      simpa [ltrs] using s4
theorem of_oreach {ws : List Wd} {m : Mch} {word : Wd} {most : Nat} (C : Cdr ws m) (h3 : ws.length ≤ 3) : ∀ (n : Nat) (a : List Nat), a.length = n → Vd ws a → spl ws a <+: word → a.length ≤ most → OReach m word most ((spl ws a).length, ltrs a, 0)
  | 0, a, hn, _, _, _ => by
    have : a = [] := List.length_eq_zero_iff.mp hn
    subst this
    exact .start (by rw [C.st]; simp)
  | n + 1, a, hn, hv, hp, hm => by
    have hne : a ≠ [] := fun z => by rw [z] at hn; cases hn
    obtain ⟨b, k, rfl⟩ : ∃ b k, a = b ++ [k] := ⟨a.dropLast, a.getLast hne, (List.dropLast_concat_getLast hne).symm⟩
    have hl : b.length = n := by simpa using hn
    have hb : Vd ws b := fun x hx => hv x (List.mem_append_left _ hx)
    have hk : k < ws.length := hv k (List.mem_append_right _ (List.mem_singleton_self k))
    have e1 : spl ws (b ++ [k]) = spl ws b ++ ws.getD k [] := by
      rw [spl_app, spl_cons, spl_nil, List.append_nil]
    have e2 : ltrs (b ++ [k]) = ltrs b ++ [97 + k] := by simp [ltrs]
    have hm2 : (b ++ [k]).length ≤ most := hm
    rw [List.length_append] at hm
    rw [e1] at hp
    have r := of_oreach (most := most) C h3 n b hl hb (List.IsPrefix.trans (List.prefix_append _ _) hp) (by simp at hm; omega)
    refine .step (a := ((spl ws b).length, ltrs b, 0)) r ⟨ws.getD k [], [97 + k], 0, (C.sp _).mpr ((mem_cSteps h3).mpr ⟨k, hk, rfl⟩), by rw [e1, e2, List.length_append], ?_, ?_⟩
    · obtain ⟨r, hr⟩ := hp
      simp only
      rw [← hr, List.append_assoc, List.drop_left, List.take_left]
    · simp only
      rw [← e2]
      simpa [ltrs] using hm2
theorem outs_iff {ws : List Wd} {m : Mch} {word : Wd} {most : Nat} (C : Cdr ws m) (h3 : ws.length ≤ 3) (w : Wd) :
    (∃ q, OReach m word most (word.length, w, q) ∧ q ∈ m.en) ↔ ∃ a, Vd ws a ∧ spl ws a = word ∧ w = ltrs a ∧ a.length ≤ most := by
  constructor
  · rintro ⟨q, h, _⟩
    obtain ⟨a, h1, h2, h4, h5⟩ := oreach_of C h3 h
    simp only [Prod.mk.injEq] at h4
    exact ⟨a, h1, h2.eq_of_length h4.1.symm, h4.2.1, h5⟩
  · rintro ⟨a, h1, h2, rfl, h5⟩
    refine ⟨0, ?_, by rw [C.en]; simp⟩
    have := of_oreach (most := most) C h3 _ a rfl h1 (by rw [h2]; exact List.prefix_refl word) h5
    rwa [h2] at this
/-! ### all rows that spell a word -/
def facts (ws : List Wd) : Nat → Wd → List (List Nat)
  | 0, w => if w = [] then [[]] else []
  | f + 1, w => if w = [] then [[]] else (List.range ws.length).flatMap fun k => if (ws.getD k []).isPrefixOf w = true then (facts ws f (w.drop (ws.getD k []).length)).map (k :: ·) else []
theorem mem_facts {ws : List Wd} (hne : ∀ w ∈ ws, w ≠ []) : ∀ (f : Nat) (w : Wd) (a : List Nat), w.length ≤ f → (a ∈ facts ws f w ↔ Vd ws a ∧ spl ws a = w) := by
  intro f
  induction f with
  | zero =>
    intro w a hf
    have : w = [] := List.length_eq_zero_iff.mp (by omega)
    subst this
    unfold facts
    rw [if_pos rfl, List.mem_singleton]
    constructor
    · rintro rfl
      exact ⟨(fun k m => nomatch m), rfl⟩
    · rintro ⟨v, h⟩
      match a, v, h with
      | [], _, _ => rfl
      | k :: a, v, h =>
        rw [spl_cons] at h
        exact absurd (List.append_eq_nil_iff.mp h).1 (hne _ (getD_mem (vd_cons v).1))
  | succ f ih =>
    intro w a hf
    unfold facts
    by_cases hw : w = []
    · subst hw
      rw [if_pos rfl, List.mem_singleton]
      constructor
      · rintro rfl
        exact ⟨(fun k m => nomatch m), rfl⟩
      · rintro ⟨v, h⟩
        match a, v, h with
        | [], _, _ => rfl
        | k :: a, v, h =>
          rw [spl_cons] at h
          exact absurd (List.append_eq_nil_iff.mp h).1 (hne _ (getD_mem (vd_cons v).1))
    · rw [if_neg hw, List.mem_flatMap]
      constructor
      · rintro ⟨k, hk, h⟩
        have hk := List.mem_range.mp hk
        split at h
        · next hp =>
          have hp := List.isPrefixOf_iff_prefix.mp hp
          obtain ⟨b, hb, rfl⟩ := List.mem_map.mp h
          have h0 := List.length_pos_iff.mpr (hne _ (getD_mem hk))
          obtain ⟨v, e⟩ := (ih _ b (by rw [List.length_drop]; omega)).mp hb
          refine ⟨fun x m => (List.mem_cons.mp m).elim (fun z => z ▸ hk) (v x), ?_⟩
          rw [spl_cons, e]
          exact (pref_app hp).symm
        · cases h
      · rintro ⟨v, e⟩
        match a, v, e with
        | [], _, e =>
          rw [spl_nil] at e
          exact absurd e.symm hw
        | k :: a, v, e =>
          obtain ⟨hk, v'⟩ := vd_cons v
          rw [spl_cons] at e
          have h0 := List.length_pos_iff.mpr (hne _ (getD_mem hk))
          refine ⟨k, List.mem_range.mpr hk, ?_⟩
          have hp : ws.getD k [] <+: w := ⟨_, e⟩
          rw [if_pos (List.isPrefixOf_iff_prefix.mpr hp)]
          refine List.mem_map.mpr ⟨a, (ih _ a (by rw [List.length_drop]; omega)).mpr ⟨v', ?_⟩, rfl⟩
          rw [← e, List.drop_left]
theorem facts_nodup {ws : List Wd} : ∀ (f : Nat) (w : Wd), (facts ws f w).Nodup := by
  intro f
  induction f with
  | zero =>
    intro w
    unfold facts
    split <;> simp
  | succ f ih =>
    intro w
    unfold facts
    split
    · simp
    · have key : ∀ ks : List Nat, ks.Nodup → (ks.flatMap fun k => if (ws.getD k []).isPrefixOf w = true then (facts ws f (w.drop (ws.getD k []).length)).map (k :: ·) else []).Nodup := by
        intro ks
        induction ks with
        | nil => intro _; simp
        | cons k ks ih2 =>
          intro nd
          obtain ⟨n1, n2⟩ := List.nodup_cons.mp nd
          rw [List.flatMap_cons]
          refine List.nodup_append.mpr ⟨?_, ih2 n2, fun x hx y hy e => ?_⟩
          · split
            · exact List.pairwise_map.mpr ((ih _).imp fun ne e => ne (by injection e))
            · simp
          · subst e
            split at hx
            · obtain ⟨a, _, rfl⟩ := List.mem_map.mp hx
              obtain ⟨j, hj, h⟩ := List.mem_flatMap.mp hy
              split at h
              · obtain ⟨b, _, e⟩ := List.mem_map.mp h
                injection e with e _
                exact n1 (e ▸ hj)
              · cases h
            · cases hx
      exact key _ List.nodup_range
/-- what outputs may meet -/
def outZ (ws : List Wd) (word : Wd) : List Out := (List.range (word.length + 1)).flatMap fun i => (facts ws word.length (word.take i)).map fun a => (i, ltrs a, 0)
theorem mem_outZ {ws : List Wd} (hne : ∀ w ∈ ws, w ≠ []) {word : Wd} {most : Nat} {t : Out} (h : OutOf ws word most t) : t ∈ outZ ws word ∧ t.1 ≤ word.length := by
  obtain ⟨a, h1, h2, rfl, _⟩ := h
  have hl := h2.length_le
  refine ⟨?_, hl⟩
  unfold outZ
  rw [List.mem_flatMap]
  refine ⟨(spl ws a).length, List.mem_range.mpr (by omega), List.mem_map.mpr ⟨a, (mem_facts hne _ _ a (by rw [List.length_take]; omega)).mpr ⟨h1, ?_⟩, rfl⟩⟩
  obtain ⟨r, hr⟩ := h2
  rw [← hr, List.take_left]
theorem outZ_len {ws : List Wd} {word : Wd} {B : Nat} (h : ∀ i ≤ word.length, (facts ws word.length (word.take i)).length ≤ B) : (outZ ws word).length ≤ (word.length + 1) * B := by
  unfold outZ
  rw [List.length_flatMap]
  have : ∀ l : List Nat, (∀ i ∈ l, i ≤ word.length) → (l.map fun i => ((facts ws word.length (word.take i)).map fun a => ((i, ltrs a, 0) : Out)).length).sum ≤ l.length * B := by
    intro l
    induction l with
    | nil => intro _; simp
    | cons i l ih =>
      intro hl
      have h1 := ih fun j hj => hl j (List.mem_cons_of_mem _ hj)
      have h2 := h i (hl i (List.mem_cons_self ..))
      rw [List.map_cons, List.sum_cons, List.length_map, List.length_cons, Nat.succ_mul]
      omega
  have h2 := this (List.range (word.length + 1)) fun i hi => by
    have := List.mem_range.mp hi
    omega
  rwa [List.length_range] at h2
/-! ### bounds -/
theorem facts_ud {ws rs : List Wd} (hne : ∀ w ∈ ws, w ≠ []) (Cl : Closed ws rs) {f : Nat} {w : Wd} (hf : w.length ≤ f) : (facts ws f w).length ≤ 1 := by
  have nd := facts_nodup (ws := ws) f w
  match hh : facts ws f w, nd with
  | [], _ => simp
  | [a], _ => simp
  | a :: b :: r, nd =>
    exfalso
    have ma := (mem_facts hne f w a hf).mp (by rw [hh]; simp)
    have mb := (mem_facts hne f w b hf).mp (by rw [hh]; simp)
    have e := ud_of Cl hne a b ma.1 mb.1 (ma.2.trans mb.2.symm)
    rw [e] at nd
    simp at nd
theorem facts_pow {ws : List Wd} (hne : ∀ w ∈ ws, w ≠ []) (h3 : ws.length ≤ 3) : ∀ (f : Nat) (w : Wd), w.length ≤ f → (facts ws f w).length ≤ 3 ^ w.length := by
  intro f
  induction f with
  | zero =>
    intro w hf
    have : w = [] := List.length_eq_zero_iff.mp (by omega)
    subst this
    simp [facts]
  | succ f ih =>
    intro w hf
    unfold facts
    split
    · next h => subst h; simp
    · next hw =>
      have hp := List.length_pos_iff.mpr hw
      rw [List.length_flatMap]
      have part : ∀ k ∈ List.range ws.length, (if (ws.getD k []).isPrefixOf w = true then (facts ws f (w.drop (ws.getD k []).length)).map (k :: ·) else []).length ≤ 3 ^ (w.length - 1) := fun k hk => by
        have hk := List.mem_range.mp hk
        have h0 := List.length_pos_iff.mpr (hne _ (getD_mem hk))
        split
        · rw [List.length_map]
          refine Nat.le_trans (ih _ (by rw [List.length_drop]; omega)) (Nat.pow_le_pow_right (by decide) ?_)
          rw [List.length_drop]
          omega
        · exact Nat.zero_le _
      have gen : ∀ l : List Nat, (∀ k ∈ l, (if (ws.getD k []).isPrefixOf w = true then (facts ws f (w.drop (ws.getD k []).length)).map (k :: ·) else []).length ≤ 3 ^ (w.length - 1)) → (l.map fun k => (if (ws.getD k []).isPrefixOf w = true then (facts ws f (w.drop (ws.getD k []).length)).map (k :: ·) else []).length).sum ≤ l.length * 3 ^ (w.length - 1) := by
        intro l
        induction l with
        | nil => intro _; simp
        | cons k l ih2 =>
          intro hl
          have a1 := hl k (List.mem_cons_self ..)
          have a2 := ih2 fun j hj => hl j (List.mem_cons_of_mem _ hj)
          rw [List.map_cons, List.sum_cons, List.length_cons, Nat.succ_mul]
          omega
      have h := gen _ part
      rw [List.length_range] at h
      have e : 3 ^ w.length = 3 * 3 ^ (w.length - 1) := by
        rw [Nat.mul_comm, ← Nat.pow_succ]
        congr 1
        omega
      rw [e]
      exact Nat.le_trans h (Nat.mul_le_mul_right _ h3)
end PD
set_option Elab.async false
set_option linter.all false
set_option maxRecDepth 100000
set_option maxHeartbeats 4000000
namespace PD
open PySem PySem.Spec PyProof.Rows L2
/-! ### how many rows spell a word, at most -/
def gF (D : List Nat) : Nat → Nat → Nat
  | 0, _ => 1
  | f + 1, n => if n = 0 then 1 else ((D.filter fun d => decide (d ≤ n)).map fun d => gF D f (n - d)).sum
theorem sum_sub (g : Nat → Nat) : ∀ (l D : List Nat), l.Nodup → (∀ x ∈ l, x ∈ D) → (l.map g).sum ≤ (D.map g).sum
  | [], D, _, _ => by simp
  | x :: l, D, nd, h => by
    obtain ⟨h1, h2⟩ := List.nodup_cons.mp nd
    have hx := h x (List.mem_cons_self ..)
    have h3 := sum_sub g l (D.erase x) h2 fun y hy => (List.mem_erase_of_ne fun e => h1 (by rw [← e]; exact hy)).mpr (h y (List.mem_cons_of_mem _ hy))
    have pm : (D.map g).sum = ((x :: D.erase x).map g).sum := ((List.perm_cons_erase hx).map g).sum_nat
    rw [pm]
    simp only [List.map_cons, List.sum_cons]
    omega
theorem sum_ifp (g : Nat → Nat) (p : Nat → Bool) : ∀ l : List Nat, (l.map fun k => if p k = true then g k else 0).sum = ((l.filter p).map g).sum
  | [] => rfl
  | x :: l => by
    rw [List.map_cons, List.sum_cons, sum_ifp g p l, List.filter_cons]
    split <;> simp_all
theorem sum_le (g h : Nat → Nat) : ∀ l : List Nat, (∀ x ∈ l, g x ≤ h x) → (l.map g).sum ≤ (l.map h).sum
  | [], _ => Nat.le_refl _
  | x :: l, hl => by
    have h1 := hl x (List.mem_cons_self ..)
    have h2 := sum_le g h l fun y hy => hl y (List.mem_cons_of_mem _ hy)
    simp only [List.map_cons, List.sum_cons]
    omega
theorem pref_same {a b w : Wd} (h1 : a <+: w) (h2 : b <+: w) (e : a.length = b.length) : a = b := by
  rw [List.prefix_iff_eq_take.mp h1, List.prefix_iff_eq_take.mp h2, e]
theorem facts_g {ws : List Wd} (hne : ∀ w ∈ ws, w ≠ []) (nd : ws.Nodup) : ∀ (f f' : Nat) (w : Wd), w.length ≤ f → w.length ≤ f' → (facts ws f w).length ≤ gF (ws.map (·.length)).eraseDups f' w.length := by
  intro f
  induction f with
  | zero =>
    intro f' w h1 _
    have : w = [] := List.length_eq_zero_iff.mp (by omega)
    subst this
    cases f' <;> simp [facts, gF]
  | succ f ih =>
    intro f' w h1 h2
    unfold facts
    by_cases hw : w = []
    · subst hw
      cases f' <;> simp [gF]
    · rw [if_neg hw]
      have h0 := List.length_pos_iff.mpr hw
      match f', h2 with
      | 0, h2 => exact absurd h2 (by omega)
      | f' + 1, h2 =>
        have hg : gF (ws.map (·.length)).eraseDups (f' + 1) w.length = (((ws.map (·.length)).eraseDups.filter fun d => decide (d ≤ w.length)).map fun d => gF (ws.map (·.length)).eraseDups f' (w.length - d)).sum := by
          rw [gF, if_neg (by omega)]
        rw [hg, List.length_flatMap]
        refine Nat.le_trans (sum_le _ (fun k => if (ws.getD k []).isPrefixOf w = true then gF (ws.map (·.length)).eraseDups f' (w.length - (ws.getD k []).length) else 0) _ fun k hk => ?_) ?_
        · have hk := List.mem_range.mp hk
          have hp := List.length_pos_iff.mpr (hne _ (getD_mem hk))
          split
          · rw [List.length_map]
            have := ih f' (w.drop (ws.getD k []).length) (by rw [List.length_drop]; omega) (by rw [List.length_drop]; omega)
            rwa [List.length_drop] at this
          · exact Nat.le_refl _
        · rw [sum_ifp (fun k => gF (ws.map (·.length)).eraseDups f' (w.length - (ws.getD k []).length)) (fun k => (ws.getD k []).isPrefixOf w)]
          have e : (((List.range ws.length).filter fun k => (ws.getD k []).isPrefixOf w).map fun k => gF (ws.map (·.length)).eraseDups f' (w.length - (ws.getD k []).length)) =
              ((((List.range ws.length).filter fun k => (ws.getD k []).isPrefixOf w).map fun k => (ws.getD k []).length).map fun d => gF (ws.map (·.length)).eraseDups f' (w.length - d)) := by
            rw [List.map_map]
            rfl
          rw [e]
          refine sum_sub _ _ _ ?_ ?_
          · refine List.pairwise_map.mpr ?_
            have p : ((List.range ws.length).filter fun k => (ws.getD k []).isPrefixOf w).Nodup := List.Pairwise.filter _ List.nodup_range
            refine List.Pairwise.imp_of_mem ?_ p
            intro a b ha hb ne e
            have ha := List.mem_filter.mp ha
            have hb := List.mem_filter.mp hb
            exact ne (getD_inj nd (List.mem_range.mp ha.1) (List.mem_range.mp hb.1) (pref_same (List.isPrefixOf_iff_prefix.mp ha.2) (List.isPrefixOf_iff_prefix.mp hb.2) e))
          · intro d hd
            obtain ⟨k, hk, rfl⟩ := List.mem_map.mp hd
            have hk := List.mem_filter.mp hk
            refine List.mem_filter.mpr ⟨List.mem_eraseDups.mpr (List.mem_map.mpr ⟨_, getD_mem (List.mem_range.mp hk.1), rfl⟩), ?_⟩
            exact decide_eq_true (List.isPrefixOf_iff_prefix.mp hk.2).length_le
/-! ### the words of the law -/
def Code3 (ws : List Wd) : Prop := 1 ≤ ws.length ∧ ws.length ≤ 3 ∧ (∀ w ∈ ws, w ≠ [] ∧ Abc w ∧ w.length ≤ 5) ∧ ∀ w ∈ ws.tail, w.length ≤ 3
theorem code3_of {ws : List Wd} (h : CodeW ws) : Code3 (ws.take 3) := by
  obtain ⟨h1, h2, h3, h4⟩ := h
  refine ⟨by rw [List.length_take]; omega, by rw [List.length_take]; omega, fun w m => h3 w (List.mem_of_mem_take m), fun w m => h4 w ?_⟩
  match ws, m with
  | x :: r, m => exact List.mem_of_mem_take (by simpa using m)
def tri (l : Nat) : Nat := ((List.range (l - 1)).map fun i => l - (i + 1)).sum
theorem sumL_sufs : ∀ ws : List Wd, sumL (sufs ws) = ((ws.map (·.length)).map tri).sum
  | [] => rfl
  | w :: ws => by
    have ih := sumL_sufs ws
    have e : sufs (w :: ws) = ((List.range (w.length - 1)).map fun i => w.drop (i + 1)) ++ sufs ws := by simp [sufs]
    have e2 : ∀ a b : List Wd, sumL (a ++ b) = sumL a + sumL b := fun a b => by simp [sumL]
    rw [e, e2, ih]
    simp only [List.map_cons, List.sum_cons]
    have : sumL ((List.range (w.length - 1)).map fun i => w.drop (i + 1)) = tri w.length := by
      unfold sumL tri
      rw [List.map_map]
      congr 1
      exact List.map_congr_left fun i _ => by simp
    rw [this]
theorem sufs_len : ∀ ws : List Wd, (∀ w ∈ ws, w.length ≤ 5) → (sufs ws).length ≤ 4 * ws.length
  | [], _ => by simp [sufs]
  | w :: ws, h => by
    have ih := sufs_len ws fun x m => h x (List.mem_cons_of_mem _ m)
    have hw := h w (List.mem_cons_self ..)
    have e : sufs (w :: ws) = ((List.range (w.length - 1)).map fun i => w.drop (i + 1)) ++ sufs ws := by simp [sufs]
    rw [e]
    simp only [List.length_append, List.length_map, List.length_range, List.length_cons]
    omega
def lmax (l : List Nat) : Nat := l.foldr Nat.max 0
theorem le_lmax : ∀ {l : List Nat} {x : Nat}, x ∈ l → x ≤ lmax l
  | y :: l, x, h => by
    simp only [lmax, List.foldr_cons]
    rcases List.mem_cons.mp h with rfl | h
    · exact Nat.le_max_left ..
    · exact Nat.le_trans (le_lmax h) (Nat.le_max_right ..)
theorem lmax_le {B : Nat} : ∀ {l : List Nat}, (∀ x ∈ l, x ≤ B) → lmax l ≤ B
  | [], _ => Nat.zero_le _
  | y :: l, h => Nat.max_le.mpr ⟨h y (List.mem_cons_self ..), lmax_le fun x m => h x (List.mem_cons_of_mem _ m)⟩
def tabOk (ls : List Nat) : Bool := (List.range (lmax ls + (ls.map tri).sum + 1)).all fun n => decide (gF ls.eraseDups 22 n < 4000) && decide (n ≤ 22)
theorem tab_all : (([1, 2, 3, 4, 5] : List Nat).all fun a => tabOk [a] && ([1, 2, 3] : List Nat).all fun b => tabOk [a, b] && ([1, 2, 3] : List Nat).all fun c => tabOk [a, b, c]) = true := by decide +kernel
theorem tab_of {ws : List Wd} (C : Code3 ws) : tabOk (ws.map (·.length)) = true := by
  obtain ⟨h1, h2, h3, h4⟩ := C
  have pos : ∀ w ∈ ws, 1 ≤ w.length := fun w m => List.length_pos_iff.mpr (h3 w m).1
  have in5 : ∀ n : Nat, 1 ≤ n → n ≤ 5 → n ∈ ([1, 2, 3, 4, 5] : List Nat) := fun n a b => by simp; omega
  have in3 : ∀ n : Nat, 1 ≤ n → n ≤ 3 → n ∈ ([1, 2, 3] : List Nat) := fun n a b => by simp; omega
  have T := tab_all
  rw [List.all_eq_true] at T
  match ws, h1, h2, h3, h4, pos with
  | [a], _, _, h3, _, pos =>
    have t := T a.length (in5 _ (pos a (by simp)) (h3 a (by simp)).2.2)
    exact (Bool.and_eq_true_iff.mp t).1
  | [a, b], _, _, h3, h4, pos =>
    have t := (Bool.and_eq_true_iff.mp (T a.length (in5 _ (pos a (by simp)) (h3 a (by simp)).2.2))).2
    rw [List.all_eq_true] at t
    have t := t b.length (in3 _ (pos b (by simp)) (h4 b (by simp)))
    exact (Bool.and_eq_true_iff.mp t).1
  | [a, b, c], _, _, h3, h4, pos =>
    have t := (Bool.and_eq_true_iff.mp (T a.length (in5 _ (pos a (by simp)) (h3 a (by simp)).2.2))).2
    rw [List.all_eq_true] at t
    have t := (Bool.and_eq_true_iff.mp (t b.length (in3 _ (pos b (by simp)) (h4 b (by simp))))).2
    rw [List.all_eq_true] at t
    exact t c.length (in3 _ (pos c (by simp)) (h4 c (by simp)))
def mxL (ws : List Wd) : Nat := lmax (ws.map (·.length))
theorem facts_few {ws : List Wd} (C : Code3 ws) (nd : ws.Nodup) {f : Nat} {w : Wd} (hf : w.length ≤ f) (hw : w.length ≤ mxL ws + sumL (sufs ws)) : (facts ws f w).length ≤ 3999 ∧ w.length ≤ 22 := by
  have T := tab_of C
  unfold tabOk at T
  rw [List.all_eq_true] at T
  rw [sumL_sufs] at hw
  have t := T w.length (List.mem_range.mpr (by simp only [mxL] at hw; omega))
  have ⟨t1, t2⟩ := Bool.and_eq_true_iff.mp t
  have t1 := of_decide_eq_true t1
  have t2 := of_decide_eq_true t2
  have := facts_g (fun w m => (C.2.2.1 w m).1) nd f 22 w hf t2
  exact ⟨by omega, t2⟩
/-- few rows for every beginning of what two rows spell -/
theorem facts_rows {ws : List Wd} (C : Code3 ws) {s l : List Nat} (T : TwoRows ws (mxL ws) s l) : (spl ws s).length ≤ 22 ∧ ∀ i, i ≤ (spl ws s).length → (facts ws (spl ws s).length ((spl ws s).take i)).length ≤ 3999 := by
  have hne : ∀ w ∈ ws, w ≠ [] := fun w m => (C.2.2.1 w m).1
  have hl : ∀ i, ((spl ws s).take i).length ≤ (spl ws s).length := fun i => by rw [List.length_take]; omega
  rcases T.few with h | ⟨nd, h⟩
  · have h5 : (spl ws s).length ≤ 5 := by
      match s, l, h, T.ne, T.eq, T.vs, T.vl with
      | [], [], _, ne, _, _, _ => exact absurd rfl ne
      | [], k :: l, _, _, e, _, vl =>
        rw [spl_nil, spl_cons] at e
        exact absurd (List.append_eq_nil_iff.mp e.symm).1 (hne _ (getD_mem (vl k (List.mem_cons_self ..))))
      | k :: s, [], _, _, e, vs, _ =>
        rw [spl_nil, spl_cons] at e
        exact absurd (List.append_eq_nil_iff.mp e).1 (hne _ (getD_mem (vs k (List.mem_cons_self ..))))
      | [k], [j], _, _, _, vs, _ =>
        rw [spl_cons, spl_nil, List.append_nil]
        exact (C.2.2.1 _ (getD_mem (vs k (List.mem_cons_self ..)))).2.2
      | k :: k2 :: s, j :: l, h, _, _, _, _ => simp at h; omega
      | k :: s, j :: j2 :: l, h, _, _, _, _ => simp at h; omega
    refine ⟨by omega, fun i hi => ?_⟩
    have := facts_pow hne C.2.1 (spl ws s).length ((spl ws s).take i) (hl i)
    refine Nat.le_trans this (Nat.le_trans (Nat.pow_le_pow_right (by decide) (Nat.le_trans (hl i) h5)) (by decide))
  · refine ⟨(facts_few C nd (Nat.le_refl _) h).2, fun i hi => (facts_few C nd (hl i) (Nat.le_trans (hl i) h)).1⟩
/-- what outputs of the exchanged coder answers -/
theorem F_outs {ws : List Wd} {m : Mch} {word : Wd} {most B : Nat} {R : D → Prop} (C3 : Code3 ws) (C : Cdr ws m) (hm : most ≤ 1000000) (hw : word.length ≤ 200) (hB : B ≤ 3999)
    (few : ∀ i, i ≤ word.length → (facts ws word.length (word.take i)).length ≤ B)
    (r : ∀ rs : List Wd, rs.Nodup → (∀ w, w ∈ rs ↔ ∃ a, Vd ws a ∧ spl ws a = word ∧ w = ltrs a ∧ a.length ≤ most) → R (.lst (rs.map dW))) :
    F_outputs [dM m, .str word, .int (most : Int)] R := by
  have hne : ∀ w ∈ ws, w ≠ [] := fun w m => (C3.2.2.1 w m).1
  have b := cdr_bounds C C3.2.1
  refine ⟨m, word, most, outZ ws word, (facts ws word.length word).map ltrs, rfl, by have := C3.2.1; omega, by rw [C.st]; simp, by rw [C.st]; simp, by omega, hm, fun s hs => ?_, fun t ht => ?_, ?_, fun w q ht _ => ?_, ?_, fun rs nd h => r rs nd fun w => (h w).trans (outs_iff C C3.2.1 w)⟩
  · obtain ⟨k, hk, rfl⟩ := (mem_cSteps C3.2.1).mp ((C.sp s).mp hs)
    have := (C3.2.2.1 _ (getD_mem hk)).2.2
    exact ⟨by simp only; omega, by simp⟩
  · have h := mem_outZ hne (oreach_of C C3.2.1 ht)
    exact ⟨h.1, by omega⟩
  · refine Nat.le_trans (outZ_len few) (Nat.le_trans (Nat.mul_le_mul (show word.length + 1 ≤ 201 by omega) hB) (by decide))
  · obtain ⟨a, h1, h2, h4, h5⟩ := oreach_of C C3.2.1 ht
    simp only [Prod.mk.injEq] at h4
    exact List.mem_map.mpr ⟨a, (mem_facts hne _ _ a (Nat.le_refl _)).mpr ⟨h1, h2.eq_of_length h4.1.symm⟩, h4.2.1.symm⟩
  · have := few word.length (Nat.le_refl _)
    rw [List.take_length] at this
    rw [List.length_map]
    omega
end PD
set_option Elab.async false
set_option linter.all false
set_option maxRecDepth 100000
set_option maxHeartbeats 4000000
namespace PD
open PySem PySem.Spec PyProof.Rows L2
/-! ### the law over data -/
def S_code : DS := (dSeq (dSet 9 (dCB fTuple (dCons (dLc (dRng1 (dCons (dCall F__law_draw (dCons (dVar 1) (dCons (dC (.int 15)) dNil))) dNil)) (dgName 14) dYes (dCall F__law_draw (dCons (dVar 1) (dCons (dCB fLen (dCons (dVar 3) dNil)) dNil))) [14]) dNil))) (dIfS (dOr (dNot (dTest (dCall (F__law_same 3) (dCons (dCall F_outputs (dCons (dVar 4) (dCons (dCall F_spelled (dCons (dVar 3) (dCons (dVar 9) dNil))) (dCons (dOp fAdd (dCB fLen (dCons (dVar 9) dNil)) (dC (.int 40))) dNil)))) (dCons (dLst (dCons (dM1 fJoin (dC (.str [])) (dLc (dIt (dVar 9)) (dgName 14) dYes (dOp fSub (dC (.str [97, 98, 99])) (dVar 14)) [14])) dNil)) dNil))))) (dTest (dOp fNe (dVar 8) (dVar 7)))) (dRet (dC (.bl false))) dSkip))
def S_two : DS := (dSeq (dAsg (dgTup 2 (dgCons (dgName 10) (dgCons (dgName 11) dgNil))) (dCall F_two_rows (dCons (dVar 3) dNil))) (dSeq (dSet 12 (dCB fLen (dCons (dCall F_spelled (dCons (dVar 3) (dCons (dVar 10) dNil))) dNil))) (dSeq (dSet 13 (dCall F_outputs (dCons (dVar 4) (dCons (dCall F_spelled (dCons (dVar 3) (dCons (dVar 10) dNil))) (dCons (dOp fAdd (dCB fLen (dCons (dVar 10) dNil)) (dCB fLen (dCons (dVar 11) dNil))) dNil))))) (dSeq (dIfS (dOr (dTest (dOp fNotIn (dM1 fJoin (dC (.str [])) (dLc (dIt (dVar 10)) (dgName 14) dYes (dOp fSub (dC (.str [97, 98, 99])) (dVar 14)) [14])) (dVar 13))) (dOr (dTest (dOp fNotIn (dM1 fJoin (dC (.str [])) (dLc (dIt (dVar 11)) (dgName 14) dYes (dOp fSub (dC (.str [97, 98, 99])) (dVar 14)) [14])) (dVar 13))) (dTest (dOp (fB0 fun i j => decide (i < j)) (dCB fLen (dCons (dVar 13) dNil)) (dC (.int 2)))))) (dRet (dC (.bl false))) dSkip) (dIfS (dAnd (dTest (dOp (fB0 fun i j => decide (i ≤ j)) (dVar 12) (dVar 6))) (dNot (dTest (dOp (fB0 fun i j => decide (i < j)) (dOp fSub (dVar 8) (dVar 12)) (dOp fSub (dVar 7) (dVar 12)))))) (dRet (dC (.bl false))) dSkip)))))
def S_fin : DS := (dIfS (dTest (dOp (fB0 fun i j => decide (j < i)) (dCB fLen (dCons (dLc (dRng1 (dCons (dOp fAdd (dVar 6) (dC (.int 1))) dNil)) (dgName 12) (dTest (dOp (fB0 fun i j => decide (j < i)) (dOp fSub (dVar 8) (dVar 12)) (dOp fSub (dVar 7) (dVar 12)))) (dImm (dVar 12)) [12]) dNil)) (dC (.int 0)))) (dRet (dC (.bl false))) dSkip)
def S_turn : DS := (dSeq (dSet 3 (dSl (dCall F__law_code_k38 (dCons (dVar 1) dNil)) dNoPart (dPart (dC (.int 3))))) (dSeq (dSet 4 (dCall F_exchanged (dCons (dCall F_coder (dCons (dVar 3) dNil)) dNil))) (dSeq (dSet 5 (dCall F_reading (dCons (dVar 4) dNil))) (dSeq (dSet 6 (dC (.int 18))) (dSeq (dSet 7 (dCall F__law_rows_of_k38 (dCons (dVar 3) (dCons (dVar 6) dNil)))) (dSeq (dSet 8 (dLc (dRng1 (dCons (dOp fAdd (dVar 6) (dC (.int 1))) dNil)) (dgName 12) dYes (dCall F_count (dCons (dVar 5) (dCons (dVar 12) dNil))) [12])) (dSeq (dIfS (dTest (dOp fNotN (dCall F_rests (dCons (dVar 3) dNil)) (dC .non))) S_code S_two) S_fin)))))))
def sem_law_rest : DS := (dSeq (dFor (dRng1 (dCons (dC (.int 3)) dNil)) (dgName 2) S_turn) (dRet (dC (.bl true))))
theorem abc_sub {k : Nat} (h : k < 3) {R : D → Prop} (q : R (dW [97 + k])) : fSub (.str [97, 98, 99]) (dI k) R := by
  refine ⟨by rw [sizeLine_eq]; decide, 97 + k, ?_, q⟩
  rw [atI_nat]
  match k, h with
  | 0, _ => rfl
  | 1, _ => rfl
  | 2, _ => rfl
theorem ltrs_flat (row : List Nat) : (row.map fun k => [97 + k]).flatten = ltrs row := by
  induction row with
  | nil => rfl
  | cons k row ih =>
    rw [List.map_cons, List.flatten_cons, ih]
    rfl
theorem ltrs_sum : ∀ row : List Nat, (row.map fun k => ([97 + k] : Wd).length).sum = row.length
  | [] => rfl
  | k :: row => by
    rw [List.map_cons, List.sum_cons, ltrs_sum row, List.length_cons]
    simp only [List.length_cons, List.length_nil]
    omega
theorem letters_ok {i : Nat} {row : List Nat} {δ : DEnv} {R : D → Prop} (h1 : δ[i]? = some (some (.tup (row.map dI)))) (hn : i ≠ 14) (h2 : δ.length = 15) (hr : ∀ k ∈ row, k < 3) (hl : row.length ≤ 1000000) (q : R (dW (ltrs row))) :
    dM1 fJoin (dC (.str [])) (dLc (dIt (dVar i)) (dgName 14) dYes (dOp fSub (dC (.str [97, 98, 99])) (dVar 14)) [14]) δ R := by
  simp only [dM1, x_c, true_and]
  show dIt (dVar i) δ _
  refine ⟨_, h1, ?_⟩
  show _ ∧ _
  rw [List.length_map]
  refine ⟨by rw [sizeLine_eq]; omega, by simp, ?_⟩
  refine lcD_m dI (fun k => dW [97 + k]) row (fun k hk Q q => ?_) ?_
  · show dOp fSub (dC (.str [97, 98, 99])) (dVar 14) ((wipeD δ [14]).set 14 (some (dI k))) Q
    refine ⟨dI k, ?_, abc_sub (hr k hk) q⟩
    rw [List.getElem?_set_self (by rw [wipeD_length]; omega)]
  · have e := strsOf_map (fun k : Nat => [97 + k]) row
    simp only [fJoin, e]
    refine ⟨?_, by rw [ltrs_flat]; exact q⟩
    rw [List.map_map, sizeLine_eq]
    have := ltrs_sum row
    simp only [Function.comp_def] at this ⊢
    omega
theorem eqb_lst (a b : List Nat) : eqb (.lst (a.map dI)) (.lst (b.map dI)) = decide (a = b) := by
  unfold eqb
  simp only [toPy, PyData.eqv]
  exact eqvAll_ints a b
theorem sh_ints (a : List Nat) : sh 60 (.lst (a.map dI)) = true := by
  show shL 59 (a.map dI) = true
  exact shL_iff.mpr fun d m => by
    obtain ⟨x, _, rfl⟩ := List.mem_map.mp m
    rfl
theorem mem_W (x : Wd) (rs : List Wd) : mem (dW x) (rs.map dW) = decide (x ∈ rs) := by
  unfold mem
  rw [List.any_map, Bool.eq_iff_iff, List.any_eq_true, decide_eq_true_eq]
  constructor
  · rintro ⟨y, hy, e⟩
    have e : eqb (dW y) (dW x) = true := e
    rw [eqb_str', decide_eq_true_eq] at e
    rwa [← e]
  · intro h
    exact ⟨x, h, by show eqb (dW x) (dW x) = true; rw [eqb_str']; simp⟩
theorem sh_W {n : Nat} {w : Wd} (h : ∀ c ∈ w, c < 1114112) : sh n (dW w) = true := by
  cases n <;> exact List.all_eq_true.mpr fun c hc => decide_eq_true (h c hc)
theorem ltrs_small {ws : List Wd} (h3 : ws.length ≤ 3) {a : List Nat} (v : Vd ws a) : ∀ c ∈ ltrs a, c < 1114112 := fun c hc => by
  obtain ⟨k, hk, rfl⟩ := List.mem_map.mp hc
  have := v k hk
  omega
theorem same_refl (w : Wd) : sameD (.lst [dW w]) (.lst [dW w]) = true := by
  simp [sameD, sameL, dW]
theorem okD_one (w : Wd) : okD 2 (.lst [dW w]) = true := by
  simp [okD, okL, dW]
theorem spl_bound {ws : List Wd} {M : Nat} (h : ∀ w ∈ ws, w.length ≤ M) : ∀ {a : List Nat}, Vd ws a → (spl ws a).length ≤ M * a.length
  | [], _ => Nat.zero_le _
  | k :: a, v => by
    obtain ⟨h1, h2⟩ := vd_cons v
    have h3 := spl_bound h h2
    have h4 := h _ (getD_mem h1)
    rw [spl_cons, List.length_append, List.length_cons, Nat.mul_succ]
    omega
/-- rows of a code are read back -/
theorem S_code_ok {ws rs : List Wd} {m : Mch} {L : List Nat} {DD : DEnds} {a2 a5 a6 a9 a10 a11 a12 a13 a14 : Option D} (C3 : Code3 ws) (C : Cdr ws m) (Cl : Closed ws rs)
    (hK : ∀ a9, DD.nx [none, some .pool, a2, some (.tup (ws.map dW)), some (dM m), a5, a6, some (.lst (L.map dI)), some (.lst (L.map dI)), a9, a10, a11, a12, a13, a14]) :
    S_code DD [none, some .pool, a2, some (.tup (ws.map dW)), some (dM m), a5, a6, some (.lst (L.map dI)), some (.lst (L.map dI)), a9, a10, a11, a12, a13, a14] := by
  have hne : ∀ w ∈ ws, w ≠ [] := fun w m => (C3.2.2.1 w m).1
  have h3 := C3.2.1
  simp only [S_code, x_var, x_c, x_imm, x_op, x_un, x_cb, x_call, x_nil, x_cons, x_tup, x_lst, x_noPart, x_part, x_sl, x_test, x_and, x_or, x_not, x_yes, x_andV, x_orV, x_notV, x_if, x_it, x_gname, x_seq, x_skip, x_brk, x_cont, x_ret, x_retN, x_drop, x_ifS, x_set, x_setO, x_asg, x_sortSet, x_for, x_get, x_din, x_dnotin, List.set_cons_zero, List.set_cons_succ, List.getElem?_cons_zero, List.getElem?_cons_succ, List.length_cons, List.length_nil, Option.some.injEq, exists_eq_left', D.bl.injEq, D.int.injEq, dLcZ, dRng1, wipeD]
  refine draw_nat (many := 15) (by decide) (by decide) fun k hk => ?_
  refine ⟨by omega, ?_⟩
  rw [show rngD 0 ((k : Nat) : Int) = (List.range k).map dI from rngD_nat k]
  refine ⟨by rw [List.length_map, List.length_range, sizeLine_eq]; omega, by simp, ?_⟩
  refine lcD_any dI dI (fun j => j < ws.length) (List.range k) [] (fun x hx Q q => ?_) fun row h1 h2 => ?_
  · simp only [x_var, x_c, x_imm, x_op, x_un, x_cb, x_call, x_nil, x_cons, x_tup, x_lst, x_noPart, x_part, x_sl, x_test, x_and, x_or, x_not, x_yes, x_andV, x_orV, x_notV, x_if, x_it, x_gname, x_seq, x_skip, x_brk, x_cont, x_ret, x_retN, x_drop, x_ifS, x_set, x_setO, x_asg, x_sortSet, x_for, x_get, x_din, x_dnotin, List.set_cons_zero, List.set_cons_succ, List.getElem?_cons_zero, List.getElem?_cons_succ, List.length_cons, List.length_nil, Option.some.injEq, exists_eq_left', D.bl.injEq, D.int.injEq, fLen, List.length_map]
    exact draw_nat (by have := C3.1; omega) (by omega) fun j hj => q j hj
  · rw [List.length_range] at h1
    rw [List.nil_append]
    simp only [x_var, x_c, x_imm, x_op, x_un, x_cb, x_call, x_nil, x_cons, x_tup, x_lst, x_noPart, x_part, x_sl, x_test, x_and, x_or, x_not, x_yes, x_andV, x_orV, x_notV, x_if, x_it, x_gname, x_seq, x_skip, x_brk, x_cont, x_ret, x_retN, x_drop, x_ifS, x_set, x_setO, x_asg, x_sortSet, x_for, x_get, x_din, x_dnotin, List.set_cons_zero, List.set_cons_succ, List.getElem?_cons_zero, List.getElem?_cons_succ, List.length_cons, List.length_nil, Option.some.injEq, exists_eq_left', D.bl.injEq, D.int.injEq, fTuple, imm_ints, true_and]
    have hl : (spl ws row).length ≤ 70 := by
      have := spl_bound (M := 5) (fun w m => (C3.2.2.1 w m).2.2) (a := row) h2
      omega
    refine ⟨ws, row, rfl, h2, by omega, by omega, ?_⟩
    simp only [x_var, x_c, x_imm, x_op, x_un, x_cb, x_call, x_nil, x_cons, x_tup, x_lst, x_noPart, x_part, x_sl, x_test, x_and, x_or, x_not, x_yes, x_andV, x_orV, x_notV, x_if, x_it, x_gname, x_seq, x_skip, x_brk, x_cont, x_ret, x_retN, x_drop, x_ifS, x_set, x_setO, x_asg, x_sortSet, x_for, x_get, x_din, x_dnotin, List.set_cons_zero, List.set_cons_succ, List.getElem?_cons_zero, List.getElem?_cons_succ, List.length_cons, List.length_nil, Option.some.injEq, exists_eq_left', D.bl.injEq, D.int.injEq, fLen, fAdd, List.length_map]
    have e : ((row.length : Int) + 40) = ((row.length + 40 : Nat) : Int) := by omega
    rw [e]
    refine F_outs (B := 1) C3 C (by omega) (by omega) (by decide) (fun i hi => facts_ud hne Cl (by rw [List.length_take]; omega)) fun rs nd hrs => ?_
    have er : rs = [ltrs row] := by
      have mr : ltrs row ∈ rs := (hrs _).mpr ⟨row, h2, rfl, rfl, by omega⟩
      have only : ∀ w ∈ rs, w = ltrs row := fun w hw => by
        obtain ⟨a, h4, h5, rfl, _⟩ := (hrs w).mp hw
        rw [ud_of Cl hne a row h4 h2 h5]
      match rs, nd, mr, only with
      | [x], _, _, only => rw [only x (by simp)]
      | x :: y :: r, nd, _, only =>
        exfalso
        have e1 := only x (by simp)
        have e2 := only y (by simp)
        simp [e1, e2] at nd
    subst er
    refine letters_ok (row := row) rfl (by decide) rfl (fun k hk => by have := h2 k hk; omega) (by omega) ⟨by rw [sizeLine_eq]; omega, _, _, rfl, okD_one _, okD_one _, ?_⟩
    refine ⟨true, congrArg D.bl (same_refl _), ?_⟩
    rw [if_neg (by decide)]
    refine ⟨by rw [sh_ints]; simp, false, by rw [eqb_lst]; simp, ?_⟩
    rw [if_neg (by decide)]
    exact hK _
/-- two rows that spell one word are told -/
theorem S_two_ok {ws : List Wd} {m : Mch} {L1 L2 : List Nat} {s l : List Nat} {DD : DEnds} {a2 a5 a9 a10 a11 a12 a13 a14 : Option D} (C3 : Code3 ws) (C : Cdr ws m) (T : TwoRows ws (mxL ws) s l)
    (e1 : L1.length = 19) (e2 : L2.length = 19) (lt : ∀ s l, TwoRows ws (mxL ws) s l → (spl ws s).length < 19 → L1.getD (spl ws s).length 0 < L2.getD (spl ws s).length 0)
    (hK : ∀ a10 a11 a12 a13, DD.nx [none, some .pool, a2, some (.tup (ws.map dW)), some (dM m), a5, some (.int 18), some (.lst (L2.map dI)), some (.lst (L1.map dI)), a9, a10, a11, a12, a13, a14]) :
    S_two DD [none, some .pool, a2, some (.tup (ws.map dW)), some (dM m), a5, some (.int 18), some (.lst (L2.map dI)), some (.lst (L1.map dI)), a9, a10, a11, a12, a13, a14] := by
  have hne : ∀ w ∈ ws, w ≠ [] := fun w m => (C3.2.2.1 w m).1
  have h3 := C3.2.1
  have h5 := sufs_len ws fun w m => (C3.2.2.1 w m).2.2
  simp only [S_two, x_var, x_c, x_imm, x_op, x_un, x_cb, x_call, x_nil, x_cons, x_tup, x_lst, x_noPart, x_part, x_sl, x_test, x_and, x_or, x_not, x_yes, x_andV, x_orV, x_notV, x_if, x_it, x_gname, x_seq, x_skip, x_brk, x_cont, x_ret, x_retN, x_drop, x_ifS, x_set, x_setO, x_asg, x_sortSet, x_for, x_get, x_din, x_dnotin, List.set_cons_zero, List.set_cons_succ, List.getElem?_cons_zero, List.getElem?_cons_succ, List.length_cons, List.length_nil, Option.some.injEq, exists_eq_left', D.bl.injEq, D.int.injEq]
  refine ⟨ws, mxL ws, rfl, by omega, fun w hw => ⟨hne w hw, le_lmax (List.mem_map.mpr ⟨w, hw, rfl⟩)⟩, ?_, by omega, fun rs Cl => ?_, fun s l T => ?_⟩
  · refine Nat.le_trans (lmax_le (B := 5) fun x hx => ?_) (by decide)
    obtain ⟨w, hw, rfl⟩ := List.mem_map.mp hx
    exact (C3.2.2.1 w hw).2.2
  · exact absurd (ud_of Cl hne s l T.vs T.vl T.eq) T.ne
  · have hl := T.len
    have few := facts_rows C3 T
    simp only [dgTup, dgCons, dgNil, dRows, dT, x_var, x_c, x_imm, x_op, x_un, x_cb, x_call, x_nil, x_cons, x_tup, x_lst, x_noPart, x_part, x_sl, x_test, x_and, x_or, x_not, x_yes, x_andV, x_orV, x_notV, x_if, x_it, x_gname, x_seq, x_skip, x_brk, x_cont, x_ret, x_retN, x_drop, x_ifS, x_set, x_setO, x_asg, x_sortSet, x_for, x_get, x_din, x_dnotin, List.set_cons_zero, List.set_cons_succ, List.getElem?_cons_zero, List.getElem?_cons_succ, List.length_cons, List.length_nil, Option.some.injEq, exists_eq_left', D.bl.injEq, D.int.injEq]
    have hs0 : (spl ws s).length ≤ 22 := few.1
    refine ⟨trivial, ws, s, rfl, T.vs, by omega, by omega, ?_⟩
    refine ⟨by rw [sizeLine_eq]; omega, ?_⟩
    refine ⟨ws, s, rfl, T.vs, by omega, by omega, ?_⟩
    simp only [x_var, x_c, x_imm, x_op, x_un, x_cb, x_call, x_nil, x_cons, x_tup, x_lst, x_noPart, x_part, x_sl, x_test, x_and, x_or, x_not, x_yes, x_andV, x_orV, x_notV, x_if, x_it, x_gname, x_seq, x_skip, x_brk, x_cont, x_ret, x_retN, x_drop, x_ifS, x_set, x_setO, x_asg, x_sortSet, x_for, x_get, x_din, x_dnotin, List.set_cons_zero, List.set_cons_succ, List.getElem?_cons_zero, List.getElem?_cons_succ, List.length_cons, List.length_nil, Option.some.injEq, exists_eq_left', D.bl.injEq, D.int.injEq, fLen, fAdd, List.length_map]
    rw [show ((s.length : Int) + (l.length : Int)) = ((s.length + l.length : Nat) : Int) by omega]
    refine F_outs (B := 3999) C3 C (by omega) (by omega) (by decide) few.2 fun rs nd hrs => ?_
    have ms : ltrs s ∈ rs := (hrs _).mpr ⟨s, T.vs, rfl, rfl, by omega⟩
    have ml : ltrs l ∈ rs := (hrs _).mpr ⟨l, T.vl, T.eq.symm, rfl, by omega⟩
    have sm : ∀ w ∈ rs, ∀ c ∈ w, c < 1114112 := fun w hw => by
      obtain ⟨a, h6, _, rfl, _⟩ := (hrs w).mp hw
      exact ltrs_small h3 h6
    have smL : shL 60 (rs.map dW) = true := shL_iff.mpr fun d m => by
      obtain ⟨w, hw, rfl⟩ := List.mem_map.mp m
      exact sh_W (sm w hw)
    refine letters_ok (row := s) rfl (by decide) rfl (fun k hk => by have := T.vs k hk; omega) (by omega) ⟨⟨sh_W (sm _ ms), smL⟩, ?_⟩
    refine ⟨false, by rw [mem_W]; simp [ms], ?_⟩
    rw [if_neg (by decide)]
    refine letters_ok (row := l) rfl (by decide) rfl (fun k hk => by have := T.vl k hk; omega) (by omega) ⟨⟨sh_W (sm _ ml), smL⟩, ?_⟩
    refine ⟨false, by rw [mem_W]; simp [ml], ?_⟩
    rw [if_neg (by decide)]
    have two : 2 ≤ rs.length := by
      match rs, ms, ml with
      | [x], ms, ml =>
        exact absurd (ltrs_inj ((List.mem_singleton.mp ms).trans (List.mem_singleton.mp ml).symm)) T.ne
      | x :: y :: r, _, _ => simp
    refine ⟨false, ?_, ?_⟩
    · rw [List.length_map]
      exact congrArg D.bl (decide_eq_false (by omega))
    rw [if_neg (by decide)]
    have lt := lt s l T
    by_cases c : (spl ws s).length < 19
    · have c2 : decide (((spl ws s).length : Int) ≤ 18) = true := decide_eq_true (by omega)
      refine ⟨true, congrArg D.bl c2, ?_⟩
      rw [if_pos rfl]
      have lt := lt c
      refine ⟨_, at_I (l := L1) (by omega), _, at_I (l := L2) (by omega), true, congrArg D.bl (decide_eq_true (by omega)), ?_⟩
      rw [if_neg (by decide)]
      exact hK _ _ _ _
    · have c2 : decide (((spl ws s).length : Int) ≤ 18) = false := decide_eq_false (by omega)
      refine ⟨false, congrArg D.bl c2, ?_⟩
      rw [if_neg (by decide), if_neg (by decide)]
      exact hK _ _ _ _
/-- told is nowhere more than due -/
theorem S_fin_ok {ws : List Wd} {m : Mch} {L1 L2 : List Nat} {DD : DEnds} {a2 a3 a4 a5 a9 a10 a11 a12 a13 a14 : Option D}
    (e1 : L1.length = 19) (e2 : L2.length = 19) (le : ∀ n, n < 19 → L1.getD n 0 ≤ L2.getD n 0)
    (hK : ∀ a12, DD.nx [none, some .pool, a2, a3, a4, a5, some (.int 18), some (.lst (L2.map dI)), some (.lst (L1.map dI)), a9, a10, a11, a12, a13, a14]) :
    S_fin DD [none, some .pool, a2, a3, a4, a5, some (.int 18), some (.lst (L2.map dI)), some (.lst (L1.map dI)), a9, a10, a11, a12, a13, a14] := by
  simp only [S_fin, x_var, x_c, x_imm, x_op, x_un, x_cb, x_call, x_nil, x_cons, x_tup, x_lst, x_noPart, x_part, x_sl, x_test, x_and, x_or, x_not, x_yes, x_andV, x_orV, x_notV, x_if, x_it, x_gname, x_seq, x_skip, x_brk, x_cont, x_ret, x_retN, x_drop, x_ifS, x_set, x_setO, x_asg, x_sortSet, x_for, x_get, x_din, x_dnotin, List.set_cons_zero, List.set_cons_succ, List.getElem?_cons_zero, List.getElem?_cons_succ, List.length_cons, List.length_nil, Option.some.injEq, exists_eq_left', D.bl.injEq, D.int.injEq, dLcZ, dRng1, wipeD, fAdd]
  refine ⟨by omega, ?_⟩
  rw [show rngD 0 ((18 : Int) + 1) = (List.range 19).map dI from rngD_nat 19]
  refine ⟨by rw [List.length_map, List.length_range, sizeLine_eq]; omega, by simp, ?_⟩
  refine lcD_fm dI (fun _ => false) (fun k => dI k) (List.range 19) [] (fun k hk Q q => ?_) ?_
  · have hk := List.mem_range.mp hk
    have := le k hk
    simp only [x_var, x_c, x_imm, x_op, x_un, x_cb, x_call, x_nil, x_cons, x_tup, x_lst, x_noPart, x_part, x_sl, x_test, x_and, x_or, x_not, x_yes, x_andV, x_orV, x_notV, x_if, x_it, x_gname, x_seq, x_skip, x_brk, x_cont, x_ret, x_retN, x_drop, x_ifS, x_set, x_setO, x_asg, x_sortSet, x_for, x_get, x_din, x_dnotin, List.set_cons_zero, List.set_cons_succ, List.getElem?_cons_zero, List.getElem?_cons_succ, List.length_cons, List.length_nil, Option.some.injEq, exists_eq_left', D.bl.injEq, D.int.injEq]
    refine ⟨_, at_I (l := L1) (by omega), _, at_I (l := L2) (by omega), false, congrArg D.bl (decide_eq_false (by omega)), ?_⟩
    rw [if_neg (by decide)]
    simpa using q
  · rw [List.nil_append]
    have : ((List.range 19).filter fun _ => false) = [] := by simp
    rw [this]
    refine ⟨false, rfl, ?_⟩
    rw [if_neg (by decide)]
    exact hK _
def LEnv (δ : DEnv) : Prop := ∃ a2 a3 a4 a5 a6 a7 a8 a9 a10 a11 a12 a13 a14 : Option D, δ = [none, some .pool, a2, a3, a4, a5, a6, a7, a8, a9, a10, a11, a12, a13, a14]
theorem cut3 {α : Type} (l : List α) : cutL l none (some 3) = l.take 3 := by
  unfold cutL
  rw [HT.sIx_none, show (some (3 : Int)) = some ((3 : Nat) : Int) from rfl, HT.sIx_nat, List.drop_zero, Nat.sub_zero]
  rcases Nat.lt_or_ge l.length 3 with h | h
  · rw [Nat.min_eq_right (by omega), List.take_of_length_le (Nat.le_refl _), List.take_of_length_le (by omega)]
  · rw [Nat.min_eq_left h]
theorem getD_range {f : Nat → Nat} {m n : Nat} (h : n < m) : ((List.range m).map f).getD n 0 = f n := by
  rw [List.getD_eq_getElem?_getD, List.getElem?_map, List.getElem?_range h]
  rfl
theorem S_turn_ok {DD : DEnds} (hK : ∀ δ, LEnv δ → DD.nx δ) {δ : DEnv} (hδ : LEnv δ) : S_turn DD δ := by
  obtain ⟨a2, a3, a4, a5, a6, a7, a8, a9, a10, a11, a12, a13, a14, rfl⟩ := hδ
  simp only [S_turn, x_var, x_c, x_imm, x_op, x_un, x_cb, x_call, x_nil, x_cons, x_tup, x_lst, x_noPart, x_part, x_sl, x_test, x_and, x_or, x_not, x_yes, x_andV, x_orV, x_notV, x_if, x_it, x_gname, x_seq, x_skip, x_brk, x_cont, x_ret, x_retN, x_drop, x_ifS, x_set, x_setO, x_asg, x_sortSet, x_for, x_get, x_din, x_dnotin, List.set_cons_zero, List.set_cons_succ, List.getElem?_cons_zero, List.getElem?_cons_succ, List.length_cons, List.length_nil, Option.some.injEq, exists_eq_left', D.bl.injEq, D.int.injEq, dLcZ, dRng1, wipeD]
  refine ⟨rfl, fun ws0 CW => ?_⟩
  have C3 := code3_of CW
  simp only [x_var, x_c, x_imm, x_op, x_un, x_cb, x_call, x_nil, x_cons, x_tup, x_lst, x_noPart, x_part, x_sl, x_test, x_and, x_or, x_not, x_yes, x_andV, x_orV, x_notV, x_if, x_it, x_gname, x_seq, x_skip, x_brk, x_cont, x_ret, x_retN, x_drop, x_ifS, x_set, x_setO, x_asg, x_sortSet, x_for, x_get, x_din, x_dnotin, List.set_cons_zero, List.set_cons_succ, List.getElem?_cons_zero, List.getElem?_cons_succ, List.length_cons, List.length_nil, Option.some.injEq, exists_eq_left', D.bl.injEq, D.int.injEq, fSl, cut3, ← List.map_take]
  generalize ws0.take 3 = ws at C3
  have hne : ∀ w ∈ ws, w ≠ [] := fun w m => (C3.2.2.1 w m).1
  have h3 := C3.2.1
  have w5 : ∀ w ∈ ws, w.length ≤ 5 := fun w m => (C3.2.2.1 w m).2.2
  have h5 := sufs_len ws w5
  refine ⟨ws, rfl, fun w m => by have := w5 w m; omega, fun c oc => ?_⟩
  have cs : c.st = [0] := one_of oc.stA oc.st
  have ce : c.en = [0] := one_of oc.enA oc.en
  have cl : c.sp.length ≤ 3 := by
    have := nodup_len _ _ oc.spN fun x hx => (oc.sp x).mp hx
    rw [List.length_map, List.length_range] at this
    omega
  refine ⟨c, rfl, by rw [cs]; simp, by omega, by rw [ce]; simp, fun m om => ?_⟩
  have C := cdr_of oc om
  have b := cdr_bounds C h3
  have sb : (ws.map fun w => w.length - 1).sum ≤ 12 := by
    have : ∀ l : List Wd, (∀ w ∈ l, w.length ≤ 5) → (l.map fun w => w.length - 1).sum ≤ 4 * l.length := by
      intro l
      induction l with
      | nil => intro _; simp
      | cons x l ih =>
        intro h
        have h1 := h x (List.mem_cons_self ..)
        have h2 := ih fun y hy => h y (List.mem_cons_of_mem _ hy)
        simp only [List.map_cons, List.sum_cons, List.length_cons]
        omega
    have := this ws w5
    omega
  have msp : ∀ s ∈ m.sp, s.1 < m.many ∧ s.2.2.2 < m.many ∧ s.2.1.length ≤ 1000 := fun s hs => by
    obtain ⟨k, hk, rfl⟩ := (mem_cSteps h3).mp ((C.sp s).mp hs)
    rw [C.many]
    exact ⟨Nat.zero_lt_one, Nat.zero_lt_one, by have := w5 _ (getD_mem hk); simp only; omega⟩
  refine ⟨m, rfl, by rw [C.st]; simp, by rw [C.en]; simp, by omega, fun s hs => (msp s hs).2.2, by rw [C.many]; omega, fun p hp => ?_, fun s hs => ⟨(msp s hs).1, (msp s hs).2.1⟩, fun h rows ends Ts oh RK hR => ?_⟩
  · rw [C.st] at hp
    rw [C.many, List.mem_singleton.mp hp]
    decide
  refine ⟨ws, 18, rfl, by omega, fun w hw => ⟨hne w hw, by have := w5 w hw; omega⟩, by decide, ?_⟩
  simp only [x_var, x_c, x_imm, x_op, x_un, x_cb, x_call, x_nil, x_cons, x_tup, x_lst, x_noPart, x_part, x_sl, x_test, x_and, x_or, x_not, x_yes, x_andV, x_orV, x_notV, x_if, x_it, x_gname, x_seq, x_skip, x_brk, x_cont, x_ret, x_retN, x_drop, x_ifS, x_set, x_setO, x_asg, x_sortSet, x_for, x_get, x_din, x_dnotin, List.set_cons_zero, List.set_cons_succ, List.getElem?_cons_zero, List.getElem?_cons_succ, List.length_cons, List.length_nil, Option.some.injEq, exists_eq_left', D.bl.injEq, D.int.injEq, fAdd]
  refine ⟨by omega, ?_⟩
  rw [show rngD 0 ((18 : Int) + 1) = (List.range 19).map dI from rngD_nat 19]
  refine ⟨by rw [List.length_map, List.length_range, sizeLine_eq]; omega, by simp, ?_⟩
  refine lcD_m dI (fun k => dI (spelt ws k).length) (List.range 19) (fun k hk Q q => ?_) ?_
  · have hk := List.mem_range.mp hk
    have t0 := told_spelt C h3 oh RK k
    simp only [x_var, x_c, x_imm, x_op, x_un, x_cb, x_call, x_nil, x_cons, x_tup, x_lst, x_noPart, x_part, x_sl, x_test, x_and, x_or, x_not, x_yes, x_andV, x_orV, x_notV, x_if, x_it, x_gname, x_seq, x_skip, x_brk, x_cont, x_ret, x_retN, x_drop, x_ifS, x_set, x_setO, x_asg, x_sortSet, x_for, x_get, x_din, x_dnotin, List.set_cons_zero, List.set_cons_succ, List.getElem?_cons_zero, List.getElem?_cons_succ, List.length_cons, List.length_nil, Option.some.injEq, exists_eq_left', D.bl.injEq, D.int.injEq]
    refine ⟨rows, ends, k, rfl, ?_, hR, by omega, fun row hrow => ?_, by rw [t0]; exact q⟩
    · obtain ⟨T, h1, _⟩ := RK.start
      have := (List.getElem?_eq_some_iff.mp h1).1
      have := RK.len
      omega
    · obtain ⟨i, hi⟩ := List.mem_iff_getElem?.mp hrow
      have hi2 := (List.getElem?_eq_some_iff.mp hi).1
      have hl := RK.len
      have hT : Ts[i]? = some (Ts[i]'(by omega)) := List.getElem?_eq_getElem (by omega)
      obtain ⟨r1, r2⟩ := RK.row i row _ hi hT
      refine ⟨by omega, fun r hr => ?_⟩
      obtain ⟨j, hj⟩ := List.mem_iff_getElem?.mp hr
      obtain ⟨T', h1, _⟩ := r2 j r hj
      have := (List.getElem?_eq_some_iff.mp h1).1
      omega
  · have eL : (List.range 19).map (fun k => dI (spelt ws k).length) = ((List.range 19).map fun k => (spelt ws k).length).map dI := by
      rw [List.map_map]
      rfl
    rw [eL, rowsL_eq hne 18]
    have l1 : ((List.range 19).map fun k => (spelt ws k).length).length = 19 := by rw [List.length_map, List.length_range]
    have l2 : ((List.range 19).map (nRows ws)).length = 19 := by rw [List.length_map, List.length_range]
    have hle : ∀ n, n < 19 → ((List.range 19).map fun k => (spelt ws k).length).getD n 0 ≤ ((List.range 19).map (nRows ws)).getD n 0 := fun n hn => by
      rw [getD_range hn, getD_range hn]
      exact told_le hne n
    have hlt : ∀ s l, TwoRows ws (mxL ws) s l → (spl ws s).length < 19 → ((List.range 19).map fun k => (spelt ws k).length).getD (spl ws s).length 0 < ((List.range 19).map (nRows ws)).getD (spl ws s).length 0 := fun s l T c => by
      rw [getD_range c, getD_range c]
      exact told_lt hne T.vs T.vl T.eq T.ne
    refine ⟨ws, mxL ws, rfl, by omega, fun w hw => ⟨hne w hw, le_lmax (List.mem_map.mpr ⟨w, hw, rfl⟩)⟩, ?_, by omega, fun rs Cl => ?_, fun s l T => ?_⟩
    · refine Nat.le_trans (lmax_le (B := 5) fun x hx => ?_) (by decide)
      obtain ⟨w, hw, rfl⟩ := List.mem_map.mp hx
      exact w5 w hw
    · refine ⟨true, rfl, ?_⟩
      rw [if_pos rfl]
      have e12 : ((List.range 19).map fun k => (spelt ws k).length) = (List.range 19).map (nRows ws) :=
        List.map_congr_left fun n _ => told_eq hne (fun w hw => (C3.2.2.1 w hw).2.1) Cl n
      rw [e12] at l1 hle ⊢
      refine S_code_ok C3 C Cl fun a9 => S_fin_ok (ws := ws) (m := m) l2 l2 hle fun a12 => hK _ ⟨_, _, _, _, _, _, _, _, _, _, _, _, _, rfl⟩
    · refine ⟨false, rfl, ?_⟩
      rw [if_neg (by decide)]
      refine S_two_ok C3 C T l1 l2 hlt fun b1 b2 b3 b4 => S_fin_ok (ws := ws) (m := m) l1 l2 hle fun a12 => hK _ ⟨_, _, _, _, _, _, _, _, _, _, _, _, _, rfl⟩
/-- the law, its pool made -/
theorem pure_law_rest {R : D → Prop} (r : R (.bl true)) {δ : DEnv} (hδ : LEnv δ) : sem_law_rest { nx := fun _ => R .non, rt := R } δ := by
  simp only [sem_law_rest, x_var, x_c, x_imm, x_op, x_un, x_cb, x_call, x_nil, x_cons, x_tup, x_lst, x_noPart, x_part, x_sl, x_test, x_and, x_or, x_not, x_yes, x_andV, x_orV, x_notV, x_if, x_it, x_gname, x_seq, x_skip, x_brk, x_cont, x_ret, x_retN, x_drop, x_ifS, x_set, x_setO, x_asg, x_sortSet, x_for, x_get, x_din, x_dnotin, List.set_cons_zero, List.set_cons_succ, List.getElem?_cons_zero, List.getElem?_cons_succ, List.length_cons, List.length_nil, Option.some.injEq, exists_eq_left', D.bl.injEq, D.int.injEq, dRng1]
  refine ⟨by omega, ?_⟩
  rw [show rngD 0 (3 : Int) = (List.range 3).map dI from rngD_nat 3]
  refine forL_inv dI (fun _ δ => LEnv δ) _ _ hδ (fun δ h => ?_) fun x xs δ h K hK => ?_
  · exact r
  · obtain ⟨a2, a3, a4, a5, a6, a7, a8, a9, a10, a11, a12, a13, a14, rfl⟩ := h
    simp only [x_var, x_c, x_imm, x_op, x_un, x_cb, x_call, x_nil, x_cons, x_tup, x_lst, x_noPart, x_part, x_sl, x_test, x_and, x_or, x_not, x_yes, x_andV, x_orV, x_notV, x_if, x_it, x_gname, x_seq, x_skip, x_brk, x_cont, x_ret, x_retN, x_drop, x_ifS, x_set, x_setO, x_asg, x_sortSet, x_for, x_get, x_din, x_dnotin, List.set_cons_zero, List.set_cons_succ, List.getElem?_cons_zero, List.getElem?_cons_succ, List.length_cons, List.length_nil, Option.some.injEq, exists_eq_left', D.bl.injEq, D.int.injEq]
    exact S_turn_ok hK ⟨_, _, _, _, _, _, _, _, _, _, _, _, _, rfl⟩
end PD
set_option Elab.async false
set_option linter.all false
set_option maxRecDepth 100000
set_option maxHeartbeats 4000000
namespace PD
open PySem PySem.Spec PyProof.Rows L2
section
variable {P : Program} {w : World} {K : PySem.W.Frag} {mg : Str → Option Value} {base : Heap} {pl : Option (Addr × Addr)}
abbrev N_ordered : List Str := ["many", "starts", "steps", "ends"]
theorem sc_ordered : FnScope N_ordered ["many", "starts", "steps", "ends"] (defScope S_ordered) := ⟨rfl, rfl, rfl, by decide +kernel, rfl, by decide +kernel, by decide +kernel⟩
theorem ok_ordered (T : Facts K mg) : FnOk P w K mg base CX0 1 T.a_ordered T.d_ordered ["many", "starts", "steps", "ends"] (SpD K pl F_ordered) := by
  refine T.F_ordered.ok sc_ordered (len_of len_ordered) (fun cdv A outer s H vs Q E hr h => ⟨liftS ⟨K, pl, M_ordered⟩ sem_ordered, PSs.nox ?_, body_rd h own_ordered pure_ordered⟩)
  have hu := hu_of hr
  have hu64 := room64 hr
  have hu65 := room65 hr
  have sc := sc_ordered
  exact (pss_oneD (ps_of (ps_ret (pe_of (pe_tup (pa_consD (pe_of (pe_of (pe_of (pv 0) fun _ _ _ h => cv_varF rfl h) fun _ _ _ h => cv_fe h) fun _ _ _ h => cv_imm h) (pa_consD (pe_of (pe_callTy call_tuple_of (by rfl) T.z_tuple (by decide +kernel) (pa_consD (pe_of (pe_sortedSet rfl hu64 (by rfl) T.z_sorted (by rfl) T.z_set (pe_of (pe_of (pv 1) fun _ _ _ h => cv_varF rfl h) fun _ _ _ h => cv_fe h)) fun _ _ _ h => cv_wk .e h) pa_nilD)) fun _ _ _ h => cv_cb cd_tuple h) (pa_consD (pe_of (pe_callTy call_tuple_of (by rfl) T.z_tuple (by decide +kernel) (pa_consD (pe_of (pe_sortedSet rfl hu64 (by rfl) T.z_sorted (by rfl) T.z_set (pe_of (pe_of (pv 2) fun _ _ _ h => cv_varF rfl h) fun _ _ _ h => cv_fe h)) fun _ _ _ h => cv_wk .e h) pa_nilD)) fun _ _ _ h => cv_cb cd_tuple h) (pa_consD (pe_of (pe_callTy call_tuple_of (by rfl) T.z_tuple (by decide +kernel) (pa_consD (pe_of (pe_sortedSet rfl hu64 (by rfl) T.z_sorted (by rfl) T.z_set (pe_of (pe_of (pv 3) fun _ _ _ h => cv_varF rfl h) fun _ _ _ h => cv_fe h)) fun _ _ _ h => cv_wk .e h) pa_nilD)) fun _ _ _ h => cv_cb cd_tuple h) pa_nilD))))) fun _ _ _ h => cv_tup h)) fun _ _ _ h => cvs_ret h))
abbrev N_exchanged : List Str := ["machine", "p", "one", "two", "q"]
theorem sc_exchanged : FnScope N_exchanged ["machine"] (defScope S_exchanged) := ⟨rfl, rfl, rfl, by decide +kernel, rfl, by decide +kernel, by decide +kernel⟩
theorem ok_exchanged (T : Facts K mg) : FnOk P w K mg base CX0 2 T.a_exchanged T.d_exchanged ["machine"] (SpD K pl F_exchanged) := by
  have G_ordered := ok_ordered (P := P) (w := w) (base := base) (pl := pl) T
  have b_ordered : Binds K T.d_ordered ["many", "starts", "steps", "ends"] [] := T.F_ordered.bindsN fun _ _ _ _ _ _ us hl => match us, hl with | [_, _, _, _], _ => rfl
  refine T.F_exchanged.ok sc_exchanged (len_of len_exchanged) (fun cdv A outer s H vs Q E hr h => ⟨liftS ⟨K, pl, M_exchanged⟩ sem_exchanged, PSs.nox ?_, body_rd h own_exchanged pure_exchanged⟩)
  have hu := hu_of hr
  have hu64 := room64 hr
  have hu65 := room65 hr
  have sc := sc_exchanged
  exact (pss_oneD (ps_of (ps_ret (pe_of (pe_call G_ordered (hr.mono (by decide)) (by rfl) T.g_ordered T.F_ordered.kp b_ordered .nil pass0 (pa_consD (pe_of (pe_of (pe_ix ix_seq (pe_of (pv 0) fun _ _ _ h => cv_varF rfl h) (pe_of (pe_of pe_int fun _ _ _ h => cv_int h) fun _ _ _ h => cv_wk .e h) (fun _ _ => rfl)) fun _ _ _ h => cv_ix h) fun _ _ _ h => cv_fe h) (pa_consD (pe_of (pe_of (pe_ix ix_seq (pe_of (pv 0) fun _ _ _ h => cv_varF rfl h) (pe_of (pe_of pe_int fun _ _ _ h => cv_int h) fun _ _ _ h => cv_wk .e h) (fun _ _ => rfl)) fun _ _ _ h => cv_ix h) fun _ _ _ h => cv_fe h) (pa_consD (pe_of (pe_of (pe_lc (own := [("p", 1), ("one", 2), ("two", 3), ("q", 4)]) rfl sc.nd (pi_of (pi_any (pe_of (pe_ix ix_seq (pe_of (pv 0) fun _ _ _ h => cv_varF rfl h) (pe_of (pe_of pe_int fun _ _ _ h => cv_int h) fun _ _ _ h => cv_wk .e h) (fun _ _ => rfl)) fun _ _ _ h => cv_ix h)) fun _ _ _ h => cv_it h) (blkOk_by (own := [("p", 1), ("one", 2), ("two", 3), ("q", 4)]) (N := N_exchanged) (sc := defScope S_exchanged) (by decide +kernel)) (fun _ _ _ _ _ => (pg_of (pg_tup rfl (pgs_of (pgs_cons (pg_of (pg_name (i := 1) sc.nd rfl (by first | exact Or.inl rfl | exact Or.inr rfl)) fun _ _ _ _ h => cv_gname rfl (by decide) h) (pgs_of (pgs_cons (pg_of (pg_name (i := 2) sc.nd rfl (by first | exact Or.inl rfl | exact Or.inr rfl)) fun _ _ _ _ h => cv_gname rfl (by decide) h) (pgs_of (pgs_cons (pg_of (pg_name (i := 3) sc.nd rfl (by first | exact Or.inl rfl | exact Or.inr rfl)) fun _ _ _ _ h => cv_gname rfl (by decide) h) (pgs_of (pgs_cons (pg_of (pg_name (i := 4) sc.nd rfl (by first | exact Or.inl rfl | exact Or.inr rfl)) fun _ _ _ _ h => cv_gname rfl (by decide) h) (pgs_of pgs_nil fun _ _ _ _ h => cv_gnil h)) fun _ _ _ _ h => cv_gcons h)) fun _ _ _ _ h => cv_gcons h)) fun _ _ _ _ h => cv_gcons h)) fun _ _ _ _ h => cv_gcons h)) fun _ _ _ _ h => cv_gtup h)) (fun _ _ _ _ _ => (pts_of pts_nil fun _ _ _ h => cv_yes h)) (fun _ _ _ _ _ => (pe_of (pe_tup (pa_consD (pe_of (pe_of (pe_of (pv 1) fun _ _ _ h => cv_varF rfl h) fun _ _ _ h => cv_fe h) fun _ _ _ h => cv_imm h) (pa_consD (pe_of (pe_of (pe_of (pv 3) fun _ _ _ h => cv_varF rfl h) fun _ _ _ h => cv_fe h) fun _ _ _ h => cv_imm h) (pa_consD (pe_of (pe_of (pe_of (pv 2) fun _ _ _ h => cv_varF rfl h) fun _ _ _ h => cv_fe h) fun _ _ _ h => cv_imm h) (pa_consD (pe_of (pe_of (pe_of (pv 4) fun _ _ _ h => cv_varF rfl h) fun _ _ _ h => cv_fe h) fun _ _ _ h => cv_imm h) pa_nilD))))) fun _ _ _ h => cv_tup h))) fun _ _ _ h => cv_lc .f h) fun _ _ _ h => cv_wk .e h) (pa_consD (pe_of (pe_of (pe_ix ix_seq (pe_of (pv 0) fun _ _ _ h => cv_varF rfl h) (pe_of (pe_of pe_int fun _ _ _ h => cv_int h) fun _ _ _ h => cv_wk .e h) (fun _ _ => rfl)) fun _ _ _ h => cv_ix h) fun _ _ _ h => cv_fe h) pa_nilD))))) fun _ _ _ h => cv_call h)) fun _ _ _ h => cvs_ret h))
abbrev N_fine : List Str := ["machine", "many", "steps", "p", "one", "two", "q", "k"]
theorem sc_fine : FnScope N_fine ["machine"] (defScope S_fine) := ⟨rfl, rfl, rfl, by decide +kernel, rfl, by decide +kernel, by decide +kernel⟩
theorem ok_fine (T : Facts K mg) : FnOk P w K mg base CX0 2 T.a_fine T.d_fine ["machine"] (SpD K pl F_fine) := by
  have G_ordered := ok_ordered (P := P) (w := w) (base := base) (pl := pl) T
  have b_ordered : Binds K T.d_ordered ["many", "starts", "steps", "ends"] [] := T.F_ordered.bindsN fun _ _ _ _ _ _ us hl => match us, hl with | [_, _, _, _], _ => rfl
  refine T.F_fine.ok sc_fine (len_of len_fine) (fun cdv A outer s H vs Q E hr h => ⟨liftS ⟨K, pl, M_fine⟩ sem_fine, PSs.nox ?_, body_rd h own_fine pure_fine⟩)
  have hu := hu_of hr
  have hu64 := room64 hr
  have hu65 := room65 hr
  have sc := sc_fine
  exact (pss_consD (ps_of (ps_set (i := 1) sc.nd rfl (by first | exact Or.inl rfl | exact Or.inr rfl) (pe_of (pe_ix ix_seq (pe_of (pv 0) fun _ _ _ h => cv_varF rfl h) (pe_of (pe_of pe_int fun _ _ _ h => cv_int h) fun _ _ _ h => cv_wk .e h) (fun _ _ => rfl)) fun _ _ _ h => cv_ix h)) fun _ _ _ h => cvs_set rfl h) (pss_consD (ps_of (ps_set (i := 2) sc.nd rfl (by first | exact Or.inl rfl | exact Or.inr rfl) (pe_of (pe_lst pa_nilD) fun _ _ _ h => cv_lst h)) fun _ _ _ h => cvs_setO h) (pss_consD (ps_of (ps_for PassesOwn.never rfl (pi_of (pi_any (pe_of (pe_ix ix_seq (pe_of (pv 0) fun _ _ _ h => cv_varF rfl h) (pe_of (pe_of pe_int fun _ _ _ h => cv_int h) fun _ _ _ h => cv_wk .e h) (fun _ _ => rfl)) fun _ _ _ h => cv_ix h)) fun _ _ _ h => cv_it h) (pg_of (pg_tup rfl (pgs_of (pgs_cons (pg_of (pg_name (i := 3) sc.nd rfl (by first | exact Or.inl rfl | exact Or.inr rfl)) fun _ _ _ _ h => cv_gname rfl trivial h) (pgs_of (pgs_cons (pg_of (pg_name (i := 4) sc.nd rfl (by first | exact Or.inl rfl | exact Or.inr rfl)) fun _ _ _ _ h => cv_gname rfl trivial h) (pgs_of (pgs_cons (pg_of (pg_name (i := 5) sc.nd rfl (by first | exact Or.inl rfl | exact Or.inr rfl)) fun _ _ _ _ h => cv_gname rfl trivial h) (pgs_of (pgs_cons (pg_of (pg_name (i := 6) sc.nd rfl (by first | exact Or.inl rfl | exact Or.inr rfl)) fun _ _ _ _ h => cv_gname rfl trivial h) (pgs_of pgs_nil fun _ _ _ _ h => cv_gnil h)) fun _ _ _ _ h => cv_gcons h)) fun _ _ _ _ h => cv_gcons h)) fun _ _ _ _ h => cv_gcons h)) fun _ _ _ _ h => cv_gcons h)) fun _ _ _ _ h => cv_gtup h) (pss_consD (ps_of (ps_if (pt_of (pt_cmpR op_lt (pe_of (pe_of (pe_callB call_len (by rfl) T.z_len (by decide +kernel) (pa_consD (pe_of (pe_of (pv 4) fun _ _ _ h => cv_varF rfl h) fun _ _ _ h => cv_fe h) pa_nilD)) fun _ _ _ h => cv_cb cd_len h) fun _ _ _ h => cv_wk .e h) (pe_of (pe_of pe_int fun _ _ _ h => cv_int h) fun _ _ _ h => cv_wk .e h) (nomark _)) fun _ _ _ h => cv_tOf (fun _ _ _ h => cv_op od_B0 h) h) (pss_consD (ps_of (ps_expr (pe_bm PySem.F.plainAttrs_list PySem.F.slot_list_append PySem.F.type_list_append mt_append (pv 2) (pa_cons (pe_of (pe_of (pe_tup (pa_consD (pe_of (pe_of (pe_of (pv 3) fun _ _ _ h => cv_varF rfl h) fun _ _ _ h => cv_fe h) fun _ _ _ h => cv_imm h) (pa_consD (pe_of (pe_of (pe_of (pv 4) fun _ _ _ h => cv_varF rfl h) fun _ _ _ h => cv_fe h) fun _ _ _ h => cv_imm h) (pa_consD (pe_of (pe_of (pe_of (pv 5) fun _ _ _ h => cv_varF rfl h) fun _ _ _ h => cv_fe h) fun _ _ _ h => cv_imm h) (pa_consD (pe_of (pe_of (pe_of (pv 6) fun _ _ _ h => cv_varF rfl h) fun _ _ _ h => cv_fe h) fun _ _ _ h => cv_imm h) pa_nilD))))) fun _ _ _ h => cv_tup h) fun _ _ _ h => cv_wk .e h) pa_nil))) fun _ _ _ h => cvs_append rfl h) (pss_oneD (ps_of ps_continue fun _ _ _ h => cvs_cont h))) pss_nilD) fun _ _ _ h => cvs_if h) (pss_consD (ps_of (ps_expr (pe_bm PySem.F.plainAttrs_list PySem.F.slot_list_append PySem.F.type_list_append mt_append (pv 2) (pa_cons (pe_of (pe_of (pe_tup (pa_consD (pe_of (pe_of (pe_of (pv 3) fun _ _ _ h => cv_varF rfl h) fun _ _ _ h => cv_fe h) fun _ _ _ h => cv_imm h) (pa_consD (pe_of (pe_of (pe_of (pe_ix ix_seq (pe_of (pv 4) fun _ _ _ h => cv_varF rfl h) (pe_of (pe_of pe_int fun _ _ _ h => cv_int h) fun _ _ _ h => cv_wk .e h) (fun _ _ => rfl)) fun _ _ _ h => cv_ix h) fun _ _ _ h => cv_fe h) fun _ _ _ h => cv_imm h) (pa_consD (pe_of (pe_of (pe_of (pv 5) fun _ _ _ h => cv_varF rfl h) fun _ _ _ h => cv_fe h) fun _ _ _ h => cv_imm h) (pa_consD (pe_of (pe_of (pe_of (pv 1) fun _ _ _ h => cv_varF rfl h) fun _ _ _ h => cv_fe h) fun _ _ _ h => cv_imm h) pa_nilD))))) fun _ _ _ h => cv_tup h) fun _ _ _ h => cv_wk .e h) pa_nil))) fun _ _ _ h => cvs_append rfl h) (pss_consD (ps_of (ps_for PassesOwn.never rfl (pi_of (pi_range2 rfl T.z_range (pa_consD (pe_of (pe_of pe_int fun _ _ _ h => cv_int h) fun _ _ _ h => cv_wk .e h) (pa_consD (pe_of (pe_of (pe_op op_sub (pe_of (pe_of (pe_callB call_len (by rfl) T.z_len (by decide +kernel) (pa_consD (pe_of (pe_of (pv 4) fun _ _ _ h => cv_varF rfl h) fun _ _ _ h => cv_fe h) pa_nilD)) fun _ _ _ h => cv_cb cd_len h) fun _ _ _ h => cv_wk .e h) (pe_of (pe_of pe_int fun _ _ _ h => cv_int h) fun _ _ _ h => cv_wk .e h)) fun _ _ _ h => cv_op od_I0 h) fun _ _ _ h => cv_wk .e h) pa_nilD))) fun _ _ _ h => cv_rng2 h) (pg_of (pg_name (i := 7) sc.nd rfl (by first | exact Or.inl rfl | exact Or.inr rfl)) fun _ _ _ _ h => cv_gname rfl trivial h) (pss_consD (ps_of (ps_expr (pe_bm PySem.F.plainAttrs_list PySem.F.slot_list_append PySem.F.type_list_append mt_append (pv 2) (pa_cons (pe_of (pe_of (pe_tup (pa_consD (pe_of (pe_of (pe_of (pv 1) fun _ _ _ h => cv_varF rfl h) fun _ _ _ h => cv_fe h) fun _ _ _ h => cv_imm h) (pa_consD (pe_of (pe_of (pe_of (pe_ix ix_seq (pe_of (pv 4) fun _ _ _ h => cv_varF rfl h) (pe_of (pe_of (pv 7) fun _ _ _ h => cv_varF rfl h) fun _ _ _ h => cv_fe h) (fun _ _ => rfl)) fun _ _ _ h => cv_ix h) fun _ _ _ h => cv_fe h) fun _ _ _ h => cv_imm h) (pa_consD (pe_of pe_str fun _ _ _ h => cv_str [] (by decide +kernel) h) (pa_consD (pe_of (pe_op op_addU (pe_of (pe_of (pv 1) fun _ _ _ h => cv_varF rfl h) fun _ _ _ h => cv_fe h) (pe_of (pe_of pe_int fun _ _ _ h => cv_int h) fun _ _ _ h => cv_wk .e h)) fun _ _ _ h => cv_op od_add h) pa_nilD))))) fun _ _ _ h => cv_tup h) fun _ _ _ h => cv_wk .e h) pa_nil))) fun _ _ _ h => cvs_append rfl h) (pss_oneD (ps_of (ps_aug (i := 1) sc.nd rfl (by first | exact Or.inl rfl | exact Or.inr rfl) (pe_of (pe_of pe_int fun _ _ _ h => cv_int h) fun _ _ _ h => cv_wk .e h) ip_add) fun _ _ _ h => cvs_aug rfl h)))) fun _ _ _ h => cvs_for (V := fun _ => True) h) (pss_consD (ps_of (ps_expr (pe_bm PySem.F.plainAttrs_list PySem.F.slot_list_append PySem.F.type_list_append mt_append (pv 2) (pa_cons (pe_of (pe_of (pe_tup (pa_consD (pe_of (pe_of (pe_of (pv 1) fun _ _ _ h => cv_varF rfl h) fun _ _ _ h => cv_fe h) fun _ _ _ h => cv_imm h) (pa_consD (pe_of (pe_of (pe_of (pe_ix ix_seq (pe_of (pv 4) fun _ _ _ h => cv_varF rfl h) (pe_of (pe_of (pe_un un_neg (pe_of (pe_of pe_int fun _ _ _ h => cv_int h) fun _ _ _ h => cv_wk .e h)) fun _ _ _ h => cv_un ud_neg h) fun _ _ _ h => cv_wk .e h) (fun _ _ => rfl)) fun _ _ _ h => cv_ix h) fun _ _ _ h => cv_fe h) fun _ _ _ h => cv_imm h) (pa_consD (pe_of pe_str fun _ _ _ h => cv_str [] (by decide +kernel) h) (pa_consD (pe_of (pe_of (pe_of (pv 6) fun _ _ _ h => cv_varF rfl h) fun _ _ _ h => cv_fe h) fun _ _ _ h => cv_imm h) pa_nilD))))) fun _ _ _ h => cv_tup h) fun _ _ _ h => cv_wk .e h) pa_nil))) fun _ _ _ h => cvs_append rfl h) (pss_oneD (ps_of (ps_aug (i := 1) sc.nd rfl (by first | exact Or.inl rfl | exact Or.inr rfl) (pe_of (pe_of pe_int fun _ _ _ h => cv_int h) fun _ _ _ h => cv_wk .e h) ip_add) fun _ _ _ h => cvs_aug rfl h))))))) fun _ _ _ h => cvs_for (V := fun _ => True) h) (pss_oneD (ps_of (ps_ret (pe_of (pe_call G_ordered (hr.mono (by decide)) (by rfl) T.g_ordered T.F_ordered.kp b_ordered .nil pass0 (pa_consD (pe_of (pe_of (pv 1) fun _ _ _ h => cv_varF rfl h) fun _ _ _ h => cv_fe h) (pa_consD (pe_of (pe_of (pe_ix ix_seq (pe_of (pv 0) fun _ _ _ h => cv_varF rfl h) (pe_of (pe_of pe_int fun _ _ _ h => cv_int h) fun _ _ _ h => cv_wk .e h) (fun _ _ => rfl)) fun _ _ _ h => cv_ix h) fun _ _ _ h => cv_fe h) (pa_consD (pe_of (pv 2) fun _ _ _ h => cv_varE h) (pa_consD (pe_of (pe_of (pe_ix ix_seq (pe_of (pv 0) fun _ _ _ h => cv_varF rfl h) (pe_of (pe_of pe_int fun _ _ _ h => cv_int h) fun _ _ _ h => cv_wk .e h) (fun _ _ => rfl)) fun _ _ _ h => cv_ix h) fun _ _ _ h => cv_fe h) pa_nilD))))) fun _ _ _ h => cv_call h)) fun _ _ _ h => cvs_ret h)))))
abbrev N_spread : List Str := ["machine", "states", "found", "at", "p", "one", "_", "q"]
theorem sc_spread : FnScope N_spread ["machine", "states"] (defScope S_spread) := ⟨rfl, rfl, rfl, by decide +kernel, rfl, by decide +kernel, by decide +kernel⟩
theorem ok_spread (T : Facts K mg) : FnOk P w K mg base CX0 1 T.a_spread T.d_spread ["machine", "states"] (SpD K pl F_spread) := by
  refine T.F_spread.ok sc_spread (len_of len_spread) (fun cdv A outer s H vs Q E hr h => ⟨liftS ⟨K, pl, M_spread⟩ sem_spread, PSs.nox ?_, body_rd h own_spread pure_spread⟩)
  have hu := hu_of hr
  have hu64 := room64 hr
  have hu65 := room65 hr
  have sc := sc_spread
  exact (pss_consD (ps_of (ps_set (i := 2) sc.nd rfl (by first | exact Or.inl rfl | exact Or.inr rfl) (pe_sortedSet rfl hu64 (by rfl) T.z_sorted (by rfl) T.z_set (pe_of (pe_of (pv 1) fun _ _ _ h => cv_varF rfl h) fun _ _ _ h => cv_fe h))) fun _ _ _ h => cvs_setO h) (pss_consD (ps_of (ps_set (i := 3) sc.nd rfl (by first | exact Or.inl rfl | exact Or.inr rfl) (pe_of (pe_of pe_int fun _ _ _ h => cv_int h) fun _ _ _ h => cv_wk .f h)) fun _ _ _ h => cvs_set rfl h) (pss_consD (ps_of (ps_while PassesOwn.never (pt_of (pt_cmpR op_lt (pe_of (pe_of (pv 3) fun _ _ _ h => cv_varF rfl h) fun _ _ _ h => cv_fe h) (pe_of (pe_of (pe_callB call_len (by rfl) T.z_len (by decide +kernel) (pa_consD (pe_of (pv 2) fun _ _ _ h => cv_varE h) pa_nilD)) fun _ _ _ h => cv_cb cd_len h) fun _ _ _ h => cv_wk .e h) (nomark _)) fun _ _ _ h => cv_tOf (fun _ _ _ h => cv_op od_B0 h) h) (pss_consD (ps_of (ps_for PassesOwn.never rfl (pi_of (pi_any (pe_of (pe_ix ix_seq (pe_of (pv 0) fun _ _ _ h => cv_varF rfl h) (pe_of (pe_of pe_int fun _ _ _ h => cv_int h) fun _ _ _ h => cv_wk .e h) (fun _ _ => rfl)) fun _ _ _ h => cv_ix h)) fun _ _ _ h => cv_it h) (pg_of (pg_tup rfl (pgs_of (pgs_cons (pg_of (pg_name (i := 4) sc.nd rfl (by first | exact Or.inl rfl | exact Or.inr rfl)) fun _ _ _ _ h => cv_gname rfl trivial h) (pgs_of (pgs_cons (pg_of (pg_name (i := 5) sc.nd rfl (by first | exact Or.inl rfl | exact Or.inr rfl)) fun _ _ _ _ h => cv_gname rfl trivial h) (pgs_of (pgs_cons (pg_of (pg_name (i := 6) sc.nd rfl (by first | exact Or.inl rfl | exact Or.inr rfl)) fun _ _ _ _ h => cv_gname rfl trivial h) (pgs_of (pgs_cons (pg_of (pg_name (i := 7) sc.nd rfl (by first | exact Or.inl rfl | exact Or.inr rfl)) fun _ _ _ _ h => cv_gname rfl trivial h) (pgs_of pgs_nil fun _ _ _ _ h => cv_gnil h)) fun _ _ _ _ h => cv_gcons h)) fun _ _ _ _ h => cv_gcons h)) fun _ _ _ _ h => cv_gcons h)) fun _ _ _ _ h => cv_gcons h)) fun _ _ _ _ h => cv_gtup h) (pss_oneD (ps_of (ps_if (PW.pt (pw_of (pw_and (pt_of (pt_cmpR (op_eqU hu64) (pe_of (pe_of (pv 4) fun _ _ _ h => cv_varF rfl h) fun _ _ _ h => cv_fe h) (pe_of (pe_ix ix_seq (pe_of (pv 2) fun _ _ _ h => cv_varE h) (pe_of (pe_of (pv 3) fun _ _ _ h => cv_varF rfl h) fun _ _ _ h => cv_fe h) (fun _ _ => rfl)) fun _ _ _ h => cv_ix h) (nomark _)) fun _ _ _ h => cv_tOf (fun _ _ _ h => cv_op od_eq h) h) (pw_of (pw_and (pt_of (pt_cmpR (op_eqU hu64) (pe_of (pe_of (pv 5) fun _ _ _ h => cv_varF rfl h) fun _ _ _ h => cv_fe h) (pe_of (pe_of pe_str fun _ _ _ h => cv_str [] (by decide +kernel) h) fun _ _ _ h => cv_wk .e h) (nomark _)) fun _ _ _ h => cv_tOf (fun _ _ _ h => cv_op od_eq h) h) (pw_and1 (pt_of (pt_cmpR (op_notInU hu65) (pe_of (pe_of (pv 7) fun _ _ _ h => cv_varF rfl h) fun _ _ _ h => cv_fe h) (pe_of (pv 2) fun _ _ _ h => cv_varE h) (by rfl)) fun _ _ _ h => cv_tOf (fun _ _ _ h => cv_op od_notIn h) h))) fun _ _ _ h => cv_and h)) fun _ _ _ h => cv_and h)) (pss_oneD (ps_of (ps_expr (pe_bm PySem.F.plainAttrs_list PySem.F.slot_list_append PySem.F.type_list_append mt_append (pv 2) (pa_cons (pe_of (pe_of (pv 7) fun _ _ _ h => cv_varF rfl h) fun _ _ _ h => cv_fe h) pa_nil))) fun _ _ _ h => cvs_append rfl h)) pss_nilD) fun _ _ _ h => cvs_if h))) fun _ _ _ h => cvs_for (V := fun _ => True) h) (pss_oneD (ps_of (ps_aug (i := 3) sc.nd rfl (by first | exact Or.inl rfl | exact Or.inr rfl) (pe_of (pe_of pe_int fun _ _ _ h => cv_int h) fun _ _ _ h => cv_wk .e h) ip_add) fun _ _ _ h => cvs_aug rfl h)))) fun _ _ _ h => cvs_while h) (pss_oneD (ps_of (ps_ret (pe_of (pe_callTy call_tuple_of (by rfl) T.z_tuple (by decide +kernel) (pa_consD (pe_of (pe_of (pe_callB (cr_sortedU hu64) (by rfl) T.z_sorted (by decide +kernel) (pa_consD (pe_of (pv 2) fun _ _ _ h => cv_varE h) pa_nilD)) fun _ _ _ h => cv_cb cd_sorted h) fun _ _ _ h => cv_wk .e h) pa_nilD)) fun _ _ _ h => cv_cb cd_tuple h)) fun _ _ _ h => cvs_ret h)))))
abbrev N_read_on : List Str := ["machine", "states", "sign", "p", "one", "_", "q"]
theorem sc_read_on : FnScope N_read_on ["machine", "states", "sign"] (defScope S_read_on) := ⟨rfl, rfl, rfl, by decide +kernel, rfl, by decide +kernel, by decide +kernel⟩
theorem ok_read_on (T : Facts K mg) : FnOk P w K mg base CX0 2 T.a_read_on T.d_read_on ["machine", "states", "sign"] (SpD K pl F_read_on) := by
  have G_spread := ok_spread (P := P) (w := w) (base := base) (pl := pl) T
  have b_spread : Binds K T.d_spread ["machine", "states"] [] := T.F_spread.bindsN fun _ _ _ _ _ _ us hl => match us, hl with | [_, _], _ => rfl
  refine T.F_read_on.ok sc_read_on (len_of len_read_on) (fun cdv A outer s H vs Q E hr h => ⟨liftS ⟨K, pl, M_read_on⟩ sem_read_on, PSs.nox ?_, body_rd h own_read_on pure_read_on⟩)
  have hu := hu_of hr
  have hu64 := room64 hr
  have hu65 := room65 hr
  have sc := sc_read_on
  exact (pss_oneD (ps_of (ps_ret (pe_of (pe_call G_spread (hr.mono (by decide)) (by rfl) T.g_spread T.F_spread.kp b_spread .nil pass0 (pa_consD (pe_of (pe_of (pv 0) fun _ _ _ h => cv_varF rfl h) fun _ _ _ h => cv_fe h) (pa_consD (pe_of (pe_of (pe_lc (own := [("p", 3), ("one", 4), ("_", 5), ("q", 6)]) rfl sc.nd (pi_of (pi_any (pe_of (pe_ix ix_seq (pe_of (pv 0) fun _ _ _ h => cv_varF rfl h) (pe_of (pe_of pe_int fun _ _ _ h => cv_int h) fun _ _ _ h => cv_wk .e h) (fun _ _ => rfl)) fun _ _ _ h => cv_ix h)) fun _ _ _ h => cv_it h) (blkOk_by (own := [("p", 3), ("one", 4), ("_", 5), ("q", 6)]) (N := N_read_on) (sc := defScope S_read_on) (by decide +kernel)) (fun _ _ _ _ _ => (pg_of (pg_tup rfl (pgs_of (pgs_cons (pg_of (pg_name (i := 3) sc.nd rfl (by first | exact Or.inl rfl | exact Or.inr rfl)) fun _ _ _ _ h => cv_gname rfl (by decide) h) (pgs_of (pgs_cons (pg_of (pg_name (i := 4) sc.nd rfl (by first | exact Or.inl rfl | exact Or.inr rfl)) fun _ _ _ _ h => cv_gname rfl (by decide) h) (pgs_of (pgs_cons (pg_of (pg_name (i := 5) sc.nd rfl (by first | exact Or.inl rfl | exact Or.inr rfl)) fun _ _ _ _ h => cv_gname rfl (by decide) h) (pgs_of (pgs_cons (pg_of (pg_name (i := 6) sc.nd rfl (by first | exact Or.inl rfl | exact Or.inr rfl)) fun _ _ _ _ h => cv_gname rfl (by decide) h) (pgs_of pgs_nil fun _ _ _ _ h => cv_gnil h)) fun _ _ _ _ h => cv_gcons h)) fun _ _ _ _ h => cv_gcons h)) fun _ _ _ _ h => cv_gcons h)) fun _ _ _ _ h => cv_gcons h)) fun _ _ _ _ h => cv_gtup h)) (fun _ _ _ _ _ => (pts_one (PW.pt (pw_of (pw_and (pt_of (pt_cmpR (op_eqU hu64) (pe_of (pe_of (pv 4) fun _ _ _ h => cv_varF rfl h) fun _ _ _ h => cv_fe h) (pe_of (pe_of (pv 2) fun _ _ _ h => cv_varF rfl h) fun _ _ _ h => cv_fe h) (nomark _)) fun _ _ _ h => cv_tOf (fun _ _ _ h => cv_op od_eq h) h) (pw_and1 (pt_of (pt_cmpR (op_inU hu65) (pe_of (pe_of (pv 3) fun _ _ _ h => cv_varF rfl h) fun _ _ _ h => cv_fe h) (pe_of (pe_of (pv 1) fun _ _ _ h => cv_varF rfl h) fun _ _ _ h => cv_fe h) (by rfl)) fun _ _ _ h => cv_tOf (fun _ _ _ h => cv_op od_in h) h))) fun _ _ _ h => cv_and h)))) (fun _ _ _ _ _ => (pe_of (pe_of (pe_of (pv 6) fun _ _ _ h => cv_varF rfl h) fun _ _ _ h => cv_fe h) fun _ _ _ h => cv_imm h))) fun _ _ _ h => cv_lc .f h) fun _ _ _ h => cv_wk .e h) pa_nilD))) fun _ _ _ h => cv_call h)) fun _ _ _ h => cvs_ret h))
abbrev N_reading : List Str := ["machine", "here", "found", "rows", "at", "row", "sign", "after", "k", "q"]
theorem sc_reading : FnScope N_reading ["machine"] (defScope S_reading) := ⟨rfl, rfl, rfl, by decide +kernel, rfl, by decide +kernel, by decide +kernel⟩
theorem ok_reading (T : Facts K mg) : FnOk P w K mg base CX0 3 T.a_reading T.d_reading ["machine"] (SpD K pl F_reading) := by
  have G_fine := ok_fine (P := P) (w := w) (base := base) (pl := pl) T
  have b_fine : Binds K T.d_fine ["machine"] [] := T.F_fine.bindsN fun _ _ _ _ _ _ us hl => match us, hl with | [_], _ => rfl
  have G_spread := ok_spread (P := P) (w := w) (base := base) (pl := pl) T
  have b_spread : Binds K T.d_spread ["machine", "states"] [] := T.F_spread.bindsN fun _ _ _ _ _ _ us hl => match us, hl with | [_, _], _ => rfl
  have G_read_on := ok_read_on (P := P) (w := w) (base := base) (pl := pl) T
  have b_read_on : Binds K T.d_read_on ["machine", "states", "sign"] [] := T.F_read_on.bindsN fun _ _ _ _ _ _ us hl => match us, hl with | [_, _, _], _ => rfl
  refine T.F_reading.ok sc_reading (len_of len_reading) (fun cdv A outer s H vs Q E hr h => ⟨liftS ⟨K, pl, M_reading⟩ sem_reading, PSs.nox ?_, body_rd h own_reading pure_reading⟩)
  have hu := hu_of hr
  have hu64 := room64 hr
  have hu65 := room65 hr
  have sc := sc_reading
  exact (pss_consD (ps_of (ps_set (i := 1) sc.nd rfl (by first | exact Or.inl rfl | exact Or.inr rfl) (pe_of (pe_of (pe_call G_fine (hr.mono (by decide)) (by rfl) T.g_fine T.F_fine.kp b_fine .nil pass0 (pa_consD (pe_of (pe_of (pv 0) fun _ _ _ h => cv_varF rfl h) fun _ _ _ h => cv_fe h) pa_nilD)) fun _ _ _ h => cv_call h) fun _ _ _ h => cv_wk .f h)) fun _ _ _ h => cvs_set rfl h) (pss_consD (ps_of (ps_set (i := 2) sc.nd rfl (by first | exact Or.inl rfl | exact Or.inr rfl) (pe_of (pe_lst (pa_consD (pe_of (pe_call G_spread (hr.mono (by decide)) (by rfl) T.g_spread T.F_spread.kp b_spread .nil pass0 (pa_consD (pe_of (pe_of (pv 1) fun _ _ _ h => cv_varF rfl h) fun _ _ _ h => cv_fe h) (pa_consD (pe_of (pe_of (pe_ix ix_seq (pe_of (pv 1) fun _ _ _ h => cv_varF rfl h) (pe_of (pe_of pe_int fun _ _ _ h => cv_int h) fun _ _ _ h => cv_wk .e h) (fun _ _ => rfl)) fun _ _ _ h => cv_ix h) fun _ _ _ h => cv_fe h) pa_nilD))) fun _ _ _ h => cv_call h) pa_nilD)) fun _ _ _ h => cv_lst h)) fun _ _ _ h => cvs_setO h) (pss_consD (ps_of (ps_set (i := 3) sc.nd rfl (by first | exact Or.inl rfl | exact Or.inr rfl) (pe_of (pe_lst pa_nilD) fun _ _ _ h => cv_lst h)) fun _ _ _ h => cvs_setO h) (pss_consD (ps_of (ps_set (i := 4) sc.nd rfl (by first | exact Or.inl rfl | exact Or.inr rfl) (pe_of (pe_of pe_int fun _ _ _ h => cv_int h) fun _ _ _ h => cv_wk .f h)) fun _ _ _ h => cvs_set rfl h) (pss_consD (ps_of (ps_while PassesOwn.never (pt_of (pt_cmpR op_lt (pe_of (pe_of (pv 4) fun _ _ _ h => cv_varF rfl h) fun _ _ _ h => cv_fe h) (pe_of (pe_of (pe_callB call_len (by rfl) T.z_len (by decide +kernel) (pa_consD (pe_of (pv 2) fun _ _ _ h => cv_varE h) pa_nilD)) fun _ _ _ h => cv_cb cd_len h) fun _ _ _ h => cv_wk .e h) (nomark _)) fun _ _ _ h => cv_tOf (fun _ _ _ h => cv_op od_B0 h) h) (pss_consD (ps_of (ps_set (i := 5) sc.nd rfl (by first | exact Or.inl rfl | exact Or.inr rfl) (pe_of (pe_of (pe_tup pa_nilD) fun _ _ _ h => cv_tup h) fun _ _ _ h => cv_wk .f h)) fun _ _ _ h => cvs_set rfl h) (pss_consD (ps_of (ps_for PassesOwn.never rfl (pi_of (pi_any (pe_of (pe_of (pe_glob (v := V.str "abc") (by rfl) T.c_LETTERS.choose_spec ⟨_, rfl⟩) fun _ _ _ h => cv_str [97, 98, 99] (by decide +kernel) h) fun _ _ _ h => cv_wk .f h)) fun _ _ _ h => cv_it h) (pg_of (pg_name (i := 6) sc.nd rfl (by first | exact Or.inl rfl | exact Or.inr rfl)) fun _ _ _ _ h => cv_gname rfl trivial h) (pss_consD (ps_of (ps_set (i := 7) sc.nd rfl (by first | exact Or.inl rfl | exact Or.inr rfl) (pe_of (pe_of (pe_call G_read_on (hr.mono (by decide)) (by rfl) T.g_read_on T.F_read_on.kp b_read_on .nil pass0 (pa_consD (pe_of (pe_of (pv 1) fun _ _ _ h => cv_varF rfl h) fun _ _ _ h => cv_fe h) (pa_consD (pe_of (pe_ix ix_seq (pe_of (pv 2) fun _ _ _ h => cv_varE h) (pe_of (pe_of (pv 4) fun _ _ _ h => cv_varF rfl h) fun _ _ _ h => cv_fe h) (fun _ _ => rfl)) fun _ _ _ h => cv_ix h) (pa_consD (pe_of (pe_of (pv 6) fun _ _ _ h => cv_varF rfl h) fun _ _ _ h => cv_fe h) pa_nilD)))) fun _ _ _ h => cv_call h) fun _ _ _ h => cv_wk .f h)) fun _ _ _ h => cvs_set rfl h) (pss_consD (ps_of (ps_if (pt_of (pt_cmpR (op_notInU hu65) (pe_of (pe_of (pv 7) fun _ _ _ h => cv_varF rfl h) fun _ _ _ h => cv_fe h) (pe_of (pv 2) fun _ _ _ h => cv_varE h) (by rfl)) fun _ _ _ h => cv_tOf (fun _ _ _ h => cv_op od_notIn h) h) (pss_oneD (ps_of (ps_expr (pe_bm PySem.F.plainAttrs_list PySem.F.slot_list_append PySem.F.type_list_append mt_append (pv 2) (pa_cons (pe_of (pe_of (pv 7) fun _ _ _ h => cv_varF rfl h) fun _ _ _ h => cv_fe h) pa_nil))) fun _ _ _ h => cvs_append rfl h)) pss_nilD) fun _ _ _ h => cvs_if h) (pss_oneD (ps_of (ps_aug (i := 5) sc.nd rfl (by first | exact Or.inl rfl | exact Or.inr rfl) (pe_of (pe_of (pe_tup (pa_consD (pe_of (pe_bm PySem.F.plainAttrs_list PySem.F.slot_list_index PySem.F.type_list_index (mt_indexD hu65) (pe_of (pv 2) fun _ _ _ h => cv_varE h) (pa_consD (pe_of (pe_of (pv 7) fun _ _ _ h => cv_varF rfl h) fun _ _ _ h => cv_fe h) pa_nilD)) fun _ _ _ h => cv_index h) pa_nilD)) fun _ _ _ h => cv_tup h) fun _ _ _ h => cv_wk .e h) ip_addT) fun _ _ _ h => cvs_augT rfl h))))) fun _ _ _ h => cvs_for (V := fun _ => True) h) (pss_consD (ps_of (ps_expr (pe_bm PySem.F.plainAttrs_list PySem.F.slot_list_append PySem.F.type_list_append mt_append (pv 3) (pa_cons (pe_of (pe_of (pv 5) fun _ _ _ h => cv_varF rfl h) fun _ _ _ h => cv_fe h) pa_nil))) fun _ _ _ h => cvs_append rfl h) (pss_oneD (ps_of (ps_aug (i := 4) sc.nd rfl (by first | exact Or.inl rfl | exact Or.inr rfl) (pe_of (pe_of pe_int fun _ _ _ h => cv_int h) fun _ _ _ h => cv_wk .e h) ip_add) fun _ _ _ h => cvs_aug rfl h)))))) fun _ _ _ h => cvs_while h) (pss_oneD (ps_of (ps_ret (pe_of (pe_tup (pa_consD (pe_of (pe_callTy call_tuple_of (by rfl) T.z_tuple (by decide +kernel) (pa_consD (pe_of (pv 3) fun _ _ _ h => cv_varE h) pa_nilD)) fun _ _ _ h => cv_cb cd_tuple h) (pa_consD (pe_of (pe_callTy call_tuple_of (by rfl) T.z_tuple (by decide +kernel) (pa_consD (pe_of (pe_of (pe_lc (own := [("k", 8)]) rfl sc.nd (pi_of (pi_range1 rfl T.z_range (pa_consD (pe_of (pe_of (pe_callB call_len (by rfl) T.z_len (by decide +kernel) (pa_consD (pe_of (pv 2) fun _ _ _ h => cv_varE h) pa_nilD)) fun _ _ _ h => cv_cb cd_len h) fun _ _ _ h => cv_wk .e h) pa_nilD)) fun _ _ _ h => cv_rng1 h) (blkOk_by (own := [("k", 8)]) (N := N_reading) (sc := defScope S_reading) (by decide +kernel)) (fun _ _ _ _ _ => (pg_of (pg_name (i := 8) sc.nd rfl (by first | exact Or.inl rfl | exact Or.inr rfl)) fun _ _ _ _ h => cv_gname rfl (by decide) h)) (fun _ _ _ _ _ => (pts_one (pt_of (pt_val (pe_of (pe_of (pe_callB (cr_any rfl) (by rfl) T.z_any (by decide +kernel) (pa_consD (pe_of (pe_of (pe_lc (own := [("q", 9)]) rfl sc.nd (pi_of (pi_any (pe_of (pe_ix ix_seq (pe_of (pv 2) fun _ _ _ h => cv_varE h) (pe_of (pe_of (pv 8) fun _ _ _ h => cv_varF rfl h) fun _ _ _ h => cv_fe h) (fun _ _ => rfl)) fun _ _ _ h => cv_ix h)) fun _ _ _ h => cv_it h) (blkOk_by (own := [("q", 9)]) (by rfl)) (fun _ _ _ _ _ => (pg_of (pg_name (i := 9) sc.nd rfl (by first | exact Or.inl rfl | exact Or.inr rfl)) fun _ _ _ _ h => cv_gname rfl (by decide) h)) (fun _ _ _ _ _ => (pts_of pts_nil fun _ _ _ h => cv_yes h)) (fun _ _ _ _ _ => (pe_of (pe_cmpR (op_inU hu65) (pe_of (pe_of (pv 9) fun _ _ _ h => cv_varF rfl h) fun _ _ _ h => cv_fe h) (pe_of (pe_of (pe_ix ix_seq (pe_of (pv 1) fun _ _ _ h => cv_varF rfl h) (pe_of (pe_of pe_int fun _ _ _ h => cv_int h) fun _ _ _ h => cv_wk .e h) (fun _ _ => rfl)) fun _ _ _ h => cv_ix h) fun _ _ _ h => cv_fe h) (by rfl)) fun _ _ _ h => cv_op od_in h))) fun _ _ _ h => cv_lc .e h) fun _ _ _ h => cv_wk .e h) pa_nilD)) fun _ _ _ h => cv_cb cd_any h) fun _ _ _ h => cv_wk .e h)) fun _ _ _ h => cv_tB h))) (fun _ _ _ _ _ => (pe_of (pe_of (pe_of (pv 8) fun _ _ _ h => cv_varF rfl h) fun _ _ _ h => cv_fe h) fun _ _ _ h => cv_imm h))) fun _ _ _ h => cv_lc .f h) fun _ _ _ h => cv_wk .e h) pa_nilD)) fun _ _ _ h => cv_cb cd_tuple h) pa_nilD))) fun _ _ _ h => cv_tup h)) fun _ _ _ h => cvs_ret h)))))))
abbrev N__law_rows_of : List Str := ["words", "most", "found", "length", "word"]
theorem sc__law_rows_of : FnScope N__law_rows_of ["words", "most"] (defScope S__law_rows_of) := ⟨rfl, rfl, rfl, by decide +kernel, rfl, by decide +kernel, by decide +kernel⟩
theorem ok__law_rows_of (T : Facts K mg) : FnOk P w K mg base CX0 1 T.a__law_rows_of T.d__law_rows_of ["words", "most"] (SpD K pl F__law_rows_of_k38) := by
  refine T.F__law_rows_of.ok sc__law_rows_of (len_of len__law_rows_of_k38) (fun cdv A outer s H vs Q E hr h => ⟨liftS ⟨K, pl, M__law_rows_of_k38⟩ sem__law_rows_of_k38, PSs.nox ?_, body_rd h own__law_rows_of_k38 pure__law_rows_of_k38⟩)
  have hu := hu_of hr
  have hu64 := room64 hr
  have hu65 := room65 hr
  have sc := sc__law_rows_of
  exact (pss_consD (ps_of (ps_set (i := 2) sc.nd rfl (by first | exact Or.inl rfl | exact Or.inr rfl) (pe_of (pe_lst (pa_consD (pe_of pe_int fun _ _ _ h => cv_int h) pa_nilD)) fun _ _ _ h => cv_lst h)) fun _ _ _ h => cvs_setO h) (pss_consD (ps_of (ps_for PassesOwn.never rfl (pi_of (pi_range2 rfl T.z_range (pa_consD (pe_of (pe_of pe_int fun _ _ _ h => cv_int h) fun _ _ _ h => cv_wk .e h) (pa_consD (pe_of (pe_of (pe_op op_addU (pe_of (pe_of (pv 1) fun _ _ _ h => cv_varF rfl h) fun _ _ _ h => cv_fe h) (pe_of (pe_of pe_int fun _ _ _ h => cv_int h) fun _ _ _ h => cv_wk .e h)) fun _ _ _ h => cv_op od_add h) fun _ _ _ h => cv_wk .e h) pa_nilD))) fun _ _ _ h => cv_rng2 h) (pg_of (pg_name (i := 3) sc.nd rfl (by first | exact Or.inl rfl | exact Or.inr rfl)) fun _ _ _ _ h => cv_gname rfl trivial h) (pss_oneD (ps_of (ps_expr (pe_bm PySem.F.plainAttrs_list PySem.F.slot_list_append PySem.F.type_list_append mt_append (pv 2) (pa_cons (pe_of (pe_of (pe_callB (cr_sum rfl) (by rfl) T.z_sum (by decide +kernel) (pa_consD (pe_of (pe_of (pe_lc (own := [("word", 4)]) rfl sc.nd (pi_of (pi_any (pe_of (pv 0) fun _ _ _ h => cv_varF rfl h)) fun _ _ _ h => cv_it h) (blkOk_by (own := [("word", 4)]) (N := N__law_rows_of) (sc := defScope S__law_rows_of) (by decide +kernel)) (fun _ _ _ _ _ => (pg_of (pg_name (i := 4) sc.nd rfl (by first | exact Or.inl rfl | exact Or.inr rfl)) fun _ _ _ _ h => cv_gname rfl (by decide) h)) (fun _ _ _ _ _ => (pts_one (pt_of (pt_cmpR op_le (pe_of (pe_of (pe_callB call_len (by rfl) T.z_len (by decide +kernel) (pa_consD (pe_of (pe_of (pv 4) fun _ _ _ h => cv_varF rfl h) fun _ _ _ h => cv_fe h) pa_nilD)) fun _ _ _ h => cv_cb cd_len h) fun _ _ _ h => cv_wk .e h) (pe_of (pe_of (pv 3) fun _ _ _ h => cv_varF rfl h) fun _ _ _ h => cv_fe h) (nomark _)) fun _ _ _ h => cv_tOf (fun _ _ _ h => cv_op od_B0 h) h))) (fun _ _ _ _ _ => (pe_of (pe_of (pe_ix ix_seq (pe_of (pv 2) fun _ _ _ h => cv_varE h) (pe_of (pe_of (pe_op op_sub (pe_of (pe_of (pv 3) fun _ _ _ h => cv_varF rfl h) fun _ _ _ h => cv_fe h) (pe_of (pe_of (pe_callB call_len (by rfl) T.z_len (by decide +kernel) (pa_consD (pe_of (pe_of (pv 4) fun _ _ _ h => cv_varF rfl h) fun _ _ _ h => cv_fe h) pa_nilD)) fun _ _ _ h => cv_cb cd_len h) fun _ _ _ h => cv_wk .e h)) fun _ _ _ h => cv_op od_I0 h) fun _ _ _ h => cv_wk .e h) (fun _ _ => rfl)) fun _ _ _ h => cv_ix h) fun _ _ _ h => cv_imm h))) fun _ _ _ h => cv_lc .f h) fun _ _ _ h => cv_wk .e h) pa_nilD)) fun _ _ _ h => cv_cb cd_sum h) fun _ _ _ h => cv_wk .e h) pa_nil))) fun _ _ _ h => cvs_append rfl h))) fun _ _ _ h => cvs_for (V := fun _ => True) h) (pss_oneD (ps_of (ps_ret (pv 2)) fun _ _ _ h => cvs_retO rfl h))))
abbrev N__law_spread : List Str := ["cell", "mixed", "total", "k"]
theorem sc__law_spread : FnScope N__law_spread ["cell"] (defScope S__law_spread) := ⟨rfl, rfl, rfl, by decide +kernel, rfl, by decide +kernel, by decide +kernel⟩
theorem ok__law_spread (T : Facts K mg) : FnOk P w K mg base CX0 1 T.a__law_spread T.d__law_spread ["cell"] (SpD K pl F__law_spread) := by
  refine T.F__law_spread.ok sc__law_spread (len_of len__law_spread) (fun cdv A outer s H vs Q E hr h => ⟨liftS ⟨K, pl, M__law_spread⟩ sem__law_spread, PSs.nox ?_, body_rd h own__law_spread pure__law_spread⟩)
  have hu := hu_of hr
  have hu64 := room64 hr
  have hu65 := room65 hr
  have sc := sc__law_spread
  exact (pss_consD (ps_of (ps_set (i := 1) sc.nd rfl (by first | exact Or.inl rfl | exact Or.inr rfl) (pe_of (pe_of (pe_op op_mod (pe_of (pe_of (pe_callTy call_int1 (by rfl) T.z_int (by decide +kernel) (pa_consD (pe_of (pe_of (pv 0) fun _ _ _ h => cv_varF rfl h) fun _ _ _ h => cv_fe h) pa_nilD)) fun _ _ _ h => cv_cb cd_int h) fun _ _ _ h => cv_wk .e h) (pe_of (pe_of pe_int fun _ _ _ h => cv_int h) fun _ _ _ h => cv_wk .e h)) fun _ _ _ h => cv_op od_II h) fun _ _ _ h => cv_wk .f h)) fun _ _ _ h => cvs_set rfl h) (pss_consD (ps_of (ps_set (i := 2) sc.nd rfl (by first | exact Or.inl rfl | exact Or.inr rfl) (pe_of (pe_of pe_int fun _ _ _ h => cv_int h) fun _ _ _ h => cv_wk .f h)) fun _ _ _ h => cvs_set rfl h) (pss_consD (ps_of (ps_for PassesOwn.never rfl (pi_of (pi_range1 rfl T.z_range (pa_consD (pe_of (pe_of pe_int fun _ _ _ h => cv_int h) fun _ _ _ h => cv_wk .e h) pa_nilD)) fun _ _ _ h => cv_rng1 h) (pg_of (pg_name (i := 3) sc.nd rfl (by first | exact Or.inl rfl | exact Or.inr rfl)) fun _ _ _ _ h => cv_gname rfl trivial h) (pss_consD (ps_of (ps_set (i := 1) sc.nd rfl (by first | exact Or.inl rfl | exact Or.inr rfl) (pe_of (pe_of (pe_op op_mod (pe_of (pe_of (pe_callTy call_int1 (by rfl) T.z_int (by decide +kernel) (pa_consD (pe_of (pe_of (pe_op op_addU (pe_of (pe_of (pe_op op_addU (pe_of (pe_of (pe_op op_mul (pe_of (pe_of (pv 1) fun _ _ _ h => cv_varF rfl h) fun _ _ _ h => cv_fe h) (pe_of (pe_of pe_int fun _ _ _ h => cv_int h) fun _ _ _ h => cv_wk .e h)) fun _ _ _ h => cv_op od_II h) fun _ _ _ h => cv_wk .e h) (pe_of (pe_of pe_int fun _ _ _ h => cv_int h) fun _ _ _ h => cv_wk .e h)) fun _ _ _ h => cv_op od_add h) fun _ _ _ h => cv_wk .e h) (pe_of (pe_of (pv 3) fun _ _ _ h => cv_varF rfl h) fun _ _ _ h => cv_fe h)) fun _ _ _ h => cv_op od_add h) fun _ _ _ h => cv_wk .e h) pa_nilD)) fun _ _ _ h => cv_cb cd_int h) fun _ _ _ h => cv_wk .e h) (pe_of (pe_of pe_int fun _ _ _ h => cv_int h) fun _ _ _ h => cv_wk .e h)) fun _ _ _ h => cv_op od_II h) fun _ _ _ h => cv_wk .f h)) fun _ _ _ h => cvs_set rfl h) (pss_oneD (ps_of (ps_set (i := 2) sc.nd rfl (by first | exact Or.inl rfl | exact Or.inr rfl) (pe_of (pe_of (pe_op op_addU (pe_of (pe_of (pe_op op_mul (pe_of (pe_of (pv 2) fun _ _ _ h => cv_varF rfl h) fun _ _ _ h => cv_fe h) (pe_of (pe_of pe_int fun _ _ _ h => cv_int h) fun _ _ _ h => cv_wk .e h)) fun _ _ _ h => cv_op od_II h) fun _ _ _ h => cv_wk .e h) (pe_of (pe_of (pv 1) fun _ _ _ h => cv_varF rfl h) fun _ _ _ h => cv_fe h)) fun _ _ _ h => cv_op od_add h) fun _ _ _ h => cv_wk .f h)) fun _ _ _ h => cvs_set rfl h)))) fun _ _ _ h => cvs_for (V := fun _ => True) h) (pss_oneD (ps_of (ps_ret (pe_of (pe_of (pe_of (pv 2) fun _ _ _ h => cv_varF rfl h) fun _ _ _ h => cv_fe h) fun _ _ _ h => cv_imm h)) fun _ _ _ h => cvs_ret h)))))
structure PH (aP aL : Addr) (ns : List Int) (i v c s : Int) (H0 H : Hp) : Prop where
  cell : H aP = some (.lst [.ref aL, .int i, .int v, .int c, .int s])
  lst : H aL = some (.lst (ns.map V.int))
  ne : aL ≠ aP
  rest : ∀ a o, a ≠ aP → H0 a = some o → H a = some o
  pos : 0 ≤ i
section
variable {aP aL : Addr} {ns : List Int} {i v c s x : Int} {H0 H H1 : Hp} {σ : L2.St} {Q : VK} {D : Ends} {te : TE}
theorem PH.set (h : PH aP aL ns i v c s H0 H) {i' v' c' s' : Int} (hp : 0 ≤ i') : PH aP aL ns i' v' c' s' H0 (upd H aP (.lst [.ref aL, .int i', .int v', .int c', .int s'])) :=
  ⟨upd_same, by rw [upd_ne h.ne]; exact h.lst, h.ne, fun a o n e => by rw [upd_ne n]; exact h.rest a o n e, hp⟩
theorem PH.ext (h : PH aP aL ns i v c s H0 H) (e : Xt none H H1) : PH aP aL ns i v c s H0 H1 := by
  have k : ∀ a o, H a = some o → H1 a = some o := fun a o q => e.sub a o (fun ⟨p, z, _⟩ => nomatch z) q
  exact ⟨k _ _ h.cell, k _ _ h.lst, h.ne, fun a o n q => k a o (h.rest a o n q), h.pos⟩
theorem rdP {k : Int} {u : V} (h0 : σ[0]? = some (some (.ref aP))) (h : PH aP aL ns i v c s H0 H) (e : atI [V.ref aL, .int i, .int v, .int c, .int s] k = some u) (q : Q u H) : tOp (rIx K) (tVar 0) (tC (.int k)) σ H Q :=
  ⟨_, h0, .inl ⟨aP, _, k, u, rfl, rfl, .inl (.inl h.cell), e, q⟩⟩
theorem wrP {k : Int} {j : Nat} (h0 : σ[0]? = some (some (.ref aP))) (hk : ixN 5 k = some j) (h : te σ H fun y H1 => ∃ i v c s i' v' c' s', PH aP aL ns i v c s H0 H1 ∧ 0 ≤ i' ∧ [V.ref aL, .int i, .int v, .int c, .int s].set j y = [V.ref aL, .int i', .int v', .int c', .int s'] ∧ ∀ H2, PH aP aL ns i' v' c' s' H0 H2 → D.nx σ H2) (hm : ∀ Q Q' : VK, (∀ y H, Q y H → Q' y H) → te σ H Q → te σ H Q') : tAsg te (gSub (tVar 0) (tC (.int k)) rSetL) D σ H := by
  refine hm _ _ (fun y H1 ⟨i, v, c, s, i', v', c', s', p, hp, e, q⟩ => ?_) h
  exact ⟨_, h0, aP, _, k, j, rfl, rfl, p.cell, hk, q _ (by rw [e]; exact p.set hp)⟩
end
abbrev N__law_draw : List Str := ["pool", "many", "cell", "mixed", "value"]
theorem sc__law_draw : FnScope N__law_draw ["pool", "many"] (defScope S__law_draw) := ⟨rfl, rfl, rfl, by decide +kernel, rfl, by decide +kernel, by decide +kernel⟩
theorem ok__law_draw (T : Facts K mg) : FnOk P w K mg base CX0 2 T.a__law_draw T.d__law_draw ["pool", "many"] (SpD K pl F__law_draw) := by
  have G__law_spread := ok__law_spread (P := P) (w := w) (base := base) (pl := none) T
  have b__law_spread : Binds K T.d__law_spread ["cell"] [] := T.F__law_spread.bindsN fun _ _ _ _ _ _ us hl => match us, hl with | [_], _ => rfl
  refine T.F__law_draw.ok sc__law_draw (len_of fun ds R h => by obtain ⟨_, rfl, _⟩ := h; rfl) (fun cdv A outer s_0 H vs Q E hr h => ?_)
  have hu := hu_of hr
  have hu64 := room64 hr
  have hu65 := room65 hr
  have sc := sc__law_draw
  obtain ⟨ds, R, f, po, ⟨many, rfl, hm, hm2, r⟩, q⟩ := h
  match vs, f with
  | [_, _], .cons (.pool (a := aP) (aL := aL) epl) (.cons (.int _) .nil) =>
    obtain ⟨ns, i, v, c, s, ne, h1, h2, h3⟩ := po aP aL epl
    have p0 : PH aP aL ns i v c s H H := ⟨h1, h2, ne, fun _ _ _ h => h, h3⟩
    have fin : ∀ {i v c s : Int} {H' : Hp} (z : Int), PH aP aL ns i v c s H H' → 0 ≤ z → z < many → Q (.int z) H' := fun {i v c s H'} z p z1 z2 =>
      q (.int z) (.int z) H' (r z z1 z2) ⟨fun a o n e => p.rest a o (fun e2 => n ⟨(aP, aL), epl, .inl e2⟩) e, fun _ a' aL' e => by
        rw [epl] at e
        cases e
        exact ⟨ns, i, v, c, s, p.ne, p.cell, p.lst, p.pos⟩⟩ (.int z)
    have s0 : L2.start N__law_draw [V.ref aP, V.int many] = [some (.ref aP), some (.int many), none, none, none] := rfl
    rw [s0]
    obtain ⟨t2, p2, q2⟩ : ∃ t2, PSs (cxOf CX0 P w K mg base N__law_draw "_law_draw" (defScope S__law_draw) T.a__law_draw cdv A outer s_0 H E).nox (defBody S__law_draw).tail t2 ∧ ∀ (D : Ends) (i v c s : Int) (H' : Hp) (o : Option V), D.rt = Q → PH aP aL ns i v c s H H' → t2 D [some (.ref aP), some (.int many), o, none, none] H' := by
      refine ⟨_, (pss_cons (ps_asg (pe_op op_addU (pe_ix ix_seq (pv 0) pe_int (fun _ _ => rfl)) pe_int) (pg_sub (pv 0) pe_int set_list)) (pss_cons (ps_if (pt_cmpR op_le (pe_ix ix_seq (pv 0) pe_int (fun _ _ => rfl)) pe_int (nomark _)) (pss_cons (ps_set (i := 3) sc.nd rfl (by first | exact Or.inl rfl | exact Or.inr rfl) (pe_op op_mod (pe_callTy call_int1 (by rfl) T.z_int (by decide +kernel) (pa_cons (pe_op op_addU (pe_op op_addU (pe_op op_mul (pe_ix ix_seq (pv 0) pe_int (fun _ _ => rfl)) pe_int) (pe_op op_mul (pe_ix ix_seq (pv 0) pe_int (fun _ _ => rfl)) pe_int)) pe_int) pa_nil)) pe_int)) (pss_cons (ps_set (i := 3) sc.nd rfl (by first | exact Or.inl rfl | exact Or.inr rfl) (pe_op op_mod (pe_callTy call_int1 (by rfl) T.z_int (by decide +kernel) (pa_cons (pe_op op_addU (pe_op op_mul (pv 3) pe_int) (pe_ix ix_seq (pv 0) pe_int (fun _ _ => rfl))) pa_nil)) pe_int)) (pss_one (ps_ret (pe_op op_mod (pe_op op_fdiv (pv 3) pe_int) (pv 1)))))) pss_nil) (pss_cons (ps_set (i := 4) sc.nd rfl (by first | exact Or.inl rfl | exact Or.inr rfl) (pe_op op_mod (pe_callTy call_int1 (by rfl) T.z_int (by decide +kernel) (pa_cons (pe_ix ix_seq (pv 0) pe_int (fun _ _ => rfl)) pa_nil)) (pv 1))) (pss_cons (ps_asg (pe_op op_fdiv (pe_ix ix_seq (pv 0) pe_int (fun _ _ => rfl)) (pv 1)) (pg_sub (pv 0) pe_int set_list)) (pss_one (ps_ret (pv 4))))))), fun D i v c s H' o eD p => ?_⟩
      have m5 : ∀ j : Int, CMul j 48271 ∧ CMul j 69621 ∧ CMul j 16807 := fun j => ⟨.inr ⟨by decide, by decide⟩, .inr ⟨by decide, by decide⟩, .inr ⟨by decide, by decide⟩⟩
      refine rdP rfl p rfl (.inl ⟨c, 1, rfl, rfl, ?_⟩)
      refine ⟨_, rfl, aP, _, 3, 3, rfl, rfl, p.cell, rfl, ?_⟩
      have p1 : PH aP aL ns i v (c + 1) s H (upd H' aP (.lst [.ref aL, .int i, .int v, .int (c + 1), .int s])) := p.set p.pos
      show tSeq _ _ D [some (.ref aP), some (.int many), o, none, none] (upd H' aP (.lst [.ref aL, .int i, .int v, .int (c + 1), .int s]))
      generalize upd H' aP (.lst [.ref aL, .int i, .int v, .int (c + 1), .int s]) = H1 at p1 ⊢
      refine rdP rfl p1 rfl ⟨v, 0, rfl, rfl, _, rfl, ?_⟩
      dsimp only
      by_cases hv : v ≤ 0
      · rw [if_pos (decide_eq_true hv)]
        refine rdP rfl p1 rfl ⟨s, 48271, rfl, rfl, (m5 s).1, ?_⟩
        refine rdP rfl p1 rfl ⟨c + 1, 69621, rfl, rfl, (m5 _).2.1, .inl ⟨_, _, rfl, rfl, .inl ⟨_, 1, rfl, rfl, .inl ⟨_, rfl, ⟨_, 2147483647, rfl, rfl, (by decide : (0 : Int) < 2147483647), ?_⟩⟩⟩⟩⟩
        refine ⟨_, rfl, ⟨_, 16807, rfl, rfl, (m5 _).2.2, ?_⟩⟩
        refine rdP rfl p1 rfl (.inl ⟨_, _, rfl, rfl, .inl ⟨_, rfl, ⟨_, 2147483629, rfl, rfl, (by decide : (0 : Int) < 2147483629), ?_⟩⟩⟩)
        refine ⟨_, rfl, ⟨_, 5, rfl, rfl, ⟨by decide, by decide⟩, _, rfl, ⟨_, many, rfl, rfl, hm, ?_⟩⟩⟩
        show D.rt _ _
        rw [eD]
        exact fin _ p1 (Int.emod_nonneg _ (by omega)) (Int.emod_lt_of_pos _ hm)
      · rw [if_neg (by simpa using hv)]
        refine rdP rfl p1 rfl (.inl ⟨_, rfl, _, rfl, ⟨_, many, rfl, rfl, hm, ?_⟩⟩)
        refine rdP rfl p1 rfl ⟨_, rfl, ⟨_, many, rfl, rfl, ⟨hm, by omega⟩, ?_⟩⟩
        refine ⟨_, rfl, aP, _, 2, 2, rfl, rfl, p1.cell, rfl, ?_⟩
        refine ⟨_, rfl, ?_⟩
        show D.rt _ _
        rw [eD]
        exact fin _ (p1.set (v' := v / many) p1.pos) (Int.emod_nonneg _ (by omega)) (Int.emod_lt_of_pos _ hm)
    refine ⟨_, PSs.nox (pss_cons (ps_if (PW.pt (pw_and (pt_cmpR op_le (pe_ix ix_seq (pv 0) pe_int (fun _ _ => rfl)) pe_int (nomark _)) (pw_and1 (pt_cmpR op_lt (pe_ix ix_seq (pv 0) pe_int (fun _ _ => rfl)) (pe_callB call_len (by rfl) T.z_len (by decide +kernel) (pa_cons (pe_ix ix_seq (pv 0) pe_int (fun _ _ => rfl)) pa_nil)) (nomark _))))) (pss_cons (ps_set (i := 2) sc.nd rfl (by first | exact Or.inl rfl | exact Or.inr rfl) (pe_ix ix_seq (pe_ix ix_seq (pv 0) pe_int (fun _ _ => rfl)) (pe_ix ix_seq (pv 0) pe_int (fun _ _ => rfl)) (fun _ _ => rfl))) (pss_cons (ps_asg (pe_op op_addU (pe_ix ix_seq (pv 0) pe_int (fun _ _ => rfl)) pe_int) (pg_sub (pv 0) pe_int set_list)) (pss_cons (ps_asg (pv 2) (pg_sub (pv 0) pe_int set_list)) (pss_one (ps_if (pt_cmpR op_lt (pv 2) pe_int (nomark _)) (pss_one (ps_asg (pe_call G__law_spread (hr.mono (by decide)) (by rfl) T.g__law_spread T.F__law_spread.kp b__law_spread .nil pass0 (pa_cons (pv 2) pa_nil)) (pg_sub (pv 0) pe_int set_list))) pss_nil))))) pss_nil) p2), ?_⟩
    have go : ∀ {i v c s : Int} {H' : Hp} (o : Option V), PH aP aL ns i v c s H H' → t2 { nx := fun _ H' => Q .non H', rt := Q } [some (.ref aP), some (.int many), o, none, none] H' := fun {i v c s H'} o p => q2 _ i v c s H' o rfl p
    refine rdP rfl p0 rfl ⟨v, 0, rfl, rfl, _, rfl, ?_⟩
    dsimp only
    by_cases hv : v ≤ 0
    · rw [if_pos (decide_eq_true hv)]
      refine rdP rfl p0 rfl ?_
      refine rdP rfl p0 rfl ?_
      refine ⟨_, _, rfl, .inl ⟨_, .inl (.inl p0.lst), rfl⟩, i, _, rfl, rfl, _, rfl, ?_⟩
      dsimp only
      by_cases hi : i < ((ns.map V.int).length : Int)
      · rw [if_pos (decide_eq_true hi)]
        rw [List.length_map] at hi
        have hn : i.toNat < ns.length := by have := p0.pos; omega
        have ei : atI (ns.map V.int) i = some (.int (ns.getD i.toNat 0)) := by
          have e2 := atI_nat (ns.map V.int) i.toNat
          have e1 : ((i.toNat : Nat) : Int) = i := by have := p0.pos; omega
          rw [e1] at e2
          rw [e2, List.getElem?_map, List.getElem?_eq_getElem hn, List.getD_eq_getElem?_getD, List.getElem?_eq_getElem hn]
          rfl
        refine rdP rfl p0 rfl ?_
        refine rdP rfl p0 rfl ?_
        refine .inl ⟨aL, _, i, _, rfl, rfl, .inl (.inl p0.lst), ei, ?_⟩
        refine rdP rfl p0 rfl (.inl ⟨i, 1, rfl, rfl, ?_⟩)
        refine ⟨_, rfl, aP, _, 1, 1, rfl, rfl, p0.cell, rfl, ?_⟩
        have p1 : PH aP aL ns (i + 1) v c s H (upd H aP (.lst [.ref aL, .int (i + 1), .int v, .int c, .int s])) := p0.set (by have := p0.pos; omega)
        refine ⟨_, rfl, ?_⟩
        refine ⟨_, rfl, aP, _, 2, 2, rfl, rfl, p1.cell, rfl, ?_⟩
        have p2' : PH aP aL ns (i + 1) (ns.getD i.toNat 0) c s H (upd (upd H aP (.lst [.ref aL, .int (i + 1), .int v, .int c, .int s])) aP (.lst [.ref aL, .int (i + 1), .int (ns.getD i.toNat 0), .int c, .int s])) := p1.set p1.pos
        refine ⟨_, rfl, _, _, rfl, rfl, _, rfl, ?_⟩
        dsimp only
        by_cases hc : ns.getD i.toNat 0 < 1000000000000000000
        · rw [if_pos (decide_eq_true hc)]
          refine ⟨_, rfl, ?_⟩
          refine ⟨[.int (ns.getD i.toNat 0)], fun d => ∃ z, d = .int z, .cons (.int _) .nil, (fun _ _ z => nomatch z), ⟨_, rfl, fun z => ⟨z, rfl⟩⟩, fun d u H3 hd e f => ?_⟩
          obtain ⟨z, rfl⟩ := hd
          cases f
          have p3 := p2'.ext e
          refine ⟨_, rfl, aP, _, 2, 2, rfl, rfl, p3.cell, rfl, ?_⟩
          exact go _ (p3.set (v' := z) p3.pos)
        · rw [if_neg (by simpa using hc)]
          exact go _ p2'
      · rw [if_neg (by simpa using hi)]
        exact go _ p0
    · rw [if_neg (by simpa using hv)]
      exact go _ p0
abbrev N__law_pick : List Str := ["pool", "items"]
theorem sc__law_pick : FnScope N__law_pick ["pool", "items"] (defScope S__law_pick) := ⟨rfl, rfl, rfl, by decide +kernel, rfl, by decide +kernel, by decide +kernel⟩
theorem ok__law_pick (T : Facts K mg) : FnOk P w K mg base CX0 3 T.a__law_pick T.d__law_pick ["pool", "items"] (SpD K pl F__law_pick) := by
  have G__law_draw := ok__law_draw (P := P) (w := w) (base := base) (pl := pl) T
  have b__law_draw : Binds K T.d__law_draw ["pool", "many"] [] := T.F__law_draw.bindsN fun _ _ _ _ _ _ us hl => match us, hl with | [_, _], _ => rfl
  refine T.F__law_pick.ok sc__law_pick (len_of len__law_pick) (fun cdv A outer s H vs Q E hr h => ⟨liftS ⟨K, pl, M__law_pick⟩ sem__law_pick, PSs.nox ?_, body_rd h own__law_pick pure__law_pick⟩)
  have hu := hu_of hr
  have hu64 := room64 hr
  have hu65 := room65 hr
  have sc := sc__law_pick
  exact (pss_oneD (ps_of (ps_ret (pe_of (pe_of (pe_of (pe_ix ix_seq (pe_of (pv 1) fun _ _ _ h => cv_varF rfl h) (pe_of (pe_of (pe_call G__law_draw (hr.mono (by decide)) (by rfl) T.g__law_draw T.F__law_draw.kp b__law_draw .nil pass0 (pa_consD (pe_of (pe_of (pv 0) fun _ _ _ h => cv_varF rfl h) fun _ _ _ h => cv_fe h) (pa_consD (pe_of (pe_of (pe_callB call_len (by rfl) T.z_len (by decide +kernel) (pa_consD (pe_of (pe_of (pv 1) fun _ _ _ h => cv_varF rfl h) fun _ _ _ h => cv_fe h) pa_nilD)) fun _ _ _ h => cv_cb cd_len h) fun _ _ _ h => cv_wk .e h) pa_nilD))) fun _ _ _ h => cv_call h) fun _ _ _ h => cv_wk .e h) (fun _ _ => rfl)) fun _ _ _ h => cv_ix h) fun _ _ _ h => cv_fe h) fun _ _ _ h => cv_imm h)) fun _ _ _ h => cvs_ret h))
abbrev N__law_word : List Str := ["pool", "most", "k"]
theorem sc__law_word : FnScope N__law_word ["pool", "most"] (defScope S__law_word) := ⟨rfl, rfl, rfl, by decide +kernel, rfl, by decide +kernel, by decide +kernel⟩
theorem ok__law_word (T : Facts K mg) : FnOk P w K mg base CX0 4 T.a__law_word T.d__law_word ["pool", "most"] (SpD K pl F__law_word_k38) := by
  have G__law_draw := ok__law_draw (P := P) (w := w) (base := base) (pl := pl) T
  have b__law_draw : Binds K T.d__law_draw ["pool", "many"] [] := T.F__law_draw.bindsN fun _ _ _ _ _ _ us hl => match us, hl with | [_, _], _ => rfl
  have G__law_pick := ok__law_pick (P := P) (w := w) (base := base) (pl := pl) T
  have b__law_pick : Binds K T.d__law_pick ["pool", "items"] [] := T.F__law_pick.bindsN fun _ _ _ _ _ _ us hl => match us, hl with | [_, _], _ => rfl
  refine T.F__law_word.ok sc__law_word (len_of len__law_word_k38) (fun cdv A outer s H vs Q E hr h => ⟨liftS ⟨K, pl, M__law_word_k38⟩ sem__law_word_k38, PSs.nox ?_, body_rd h own__law_word_k38 pure__law_word_k38⟩)
  have hu := hu_of hr
  have hu64 := room64 hr
  have hu65 := room65 hr
  have sc := sc__law_word
  exact (pss_oneD (ps_of (ps_ret (pe_of (pe_join (pe_of (pe_of pe_str fun _ _ _ h => cv_str [] (by decide +kernel) h) fun _ _ _ h => cv_wk .e h) (pe_of (pe_of (pe_lc (own := [("k", 2)]) rfl sc.nd (pi_of (pi_range1 rfl T.z_range (pa_consD (pe_of (pe_of (pe_call G__law_draw (hr.mono (by decide)) (by rfl) T.g__law_draw T.F__law_draw.kp b__law_draw .nil pass0 (pa_consD (pe_of (pe_of (pv 0) fun _ _ _ h => cv_varF rfl h) fun _ _ _ h => cv_fe h) (pa_consD (pe_of (pe_of (pe_op op_addU (pe_of (pe_of (pv 1) fun _ _ _ h => cv_varF rfl h) fun _ _ _ h => cv_fe h) (pe_of (pe_of pe_int fun _ _ _ h => cv_int h) fun _ _ _ h => cv_wk .e h)) fun _ _ _ h => cv_op od_add h) fun _ _ _ h => cv_wk .e h) pa_nilD))) fun _ _ _ h => cv_call h) fun _ _ _ h => cv_wk .e h) pa_nilD)) fun _ _ _ h => cv_rng1 h) (blkOk_by (own := [("k", 2)]) (N := N__law_word) (sc := defScope S__law_word) (by decide +kernel)) (fun _ _ _ _ _ => (pg_of (pg_name (i := 2) sc.nd rfl (by first | exact Or.inl rfl | exact Or.inr rfl)) fun _ _ _ _ h => cv_gname rfl (by decide) h)) (fun _ _ _ _ _ => (pts_of pts_nil fun _ _ _ h => cv_yes h)) (fun _ _ _ _ _ => (pe_of (pe_call G__law_pick (hr.mono (by decide)) (by rfl) T.g__law_pick T.F__law_pick.kp b__law_pick .nil pass0 (pa_consD (pe_of (pe_of (pv 0) fun _ _ _ h => cv_varF rfl h) fun _ _ _ h => cv_fe h) (pa_consD (pe_of (pe_of (pe_lst (pa_consD (pe_of pe_str fun _ _ _ h => cv_str [97] (by decide +kernel) h) (pa_consD (pe_of pe_str fun _ _ _ h => cv_str [98] (by decide +kernel) h) (pa_consD (pe_of pe_str fun _ _ _ h => cv_str [99] (by decide +kernel) h) (pa_consD (pe_of pe_str fun _ _ _ h => cv_str [97] (by decide +kernel) h) pa_nilD))))) fun _ _ _ h => cv_lst h) fun _ _ _ h => cv_wk .e h) pa_nilD))) fun _ _ _ h => cv_call h))) fun _ _ _ h => cv_lc .f h) fun _ _ _ h => cv_wk .e h)) fun _ _ _ h => cv_m1 md_join h)) fun _ _ _ h => cvs_ret h))
abbrev N__law_code : List Str := ["pool", "many", "words", "k"]
theorem sc__law_code : FnScope N__law_code ["pool"] (defScope S__law_code) := ⟨rfl, rfl, rfl, by decide +kernel, rfl, by decide +kernel, by decide +kernel⟩
theorem ok__law_code (T : Facts K mg) : FnOk P w K mg base CX0 5 T.a__law_code T.d__law_code ["pool"] (SpD K pl F__law_code_k38) := by
  have G__law_draw := ok__law_draw (P := P) (w := w) (base := base) (pl := pl) T
  have b__law_draw : Binds K T.d__law_draw ["pool", "many"] [] := T.F__law_draw.bindsN fun _ _ _ _ _ _ us hl => match us, hl with | [_, _], _ => rfl
  have G__law_word := ok__law_word (P := P) (w := w) (base := base) (pl := pl) T
  have b__law_word : Binds K T.d__law_word ["pool", "most"] [] := T.F__law_word.bindsN fun _ _ _ _ _ _ us hl => match us, hl with | [_, _], _ => rfl
  have G__law_pick := ok__law_pick (P := P) (w := w) (base := base) (pl := pl) T
  have b__law_pick : Binds K T.d__law_pick ["pool", "items"] [] := T.F__law_pick.bindsN fun _ _ _ _ _ _ us hl => match us, hl with | [_, _], _ => rfl
  refine T.F__law_code.ok sc__law_code (len_of len__law_code_k38) (fun cdv A outer s H vs Q E hr h => ⟨liftS ⟨K, pl, M__law_code_k38⟩ sem__law_code_k38, PSs.nox ?_, body_rd h own__law_code_k38 pure__law_code_k38⟩)
  have hu := hu_of hr
  have hu64 := room64 hr
  have hu65 := room65 hr
  have sc := sc__law_code
  exact (pss_consD (ps_of (ps_set (i := 1) sc.nd rfl (by first | exact Or.inl rfl | exact Or.inr rfl) (pe_of (pe_of (pe_op op_addU (pe_of (pe_of pe_int fun _ _ _ h => cv_int h) fun _ _ _ h => cv_wk .e h) (pe_of (pe_of (pe_call G__law_draw (hr.mono (by decide)) (by rfl) T.g__law_draw T.F__law_draw.kp b__law_draw .nil pass0 (pa_consD (pe_of (pe_of (pv 0) fun _ _ _ h => cv_varF rfl h) fun _ _ _ h => cv_fe h) (pa_consD (pe_of (pe_of pe_int fun _ _ _ h => cv_int h) fun _ _ _ h => cv_wk .e h) pa_nilD))) fun _ _ _ h => cv_call h) fun _ _ _ h => cv_wk .e h)) fun _ _ _ h => cv_op od_add h) fun _ _ _ h => cv_wk .f h)) fun _ _ _ h => cvs_set rfl h) (pss_consD (ps_of (ps_setLc (i := 2) (own := [("k", 3)]) rfl sc.nd rfl rfl (sw_true rfl rfl rfl (by decide +kernel)) (pi_of (pi_range1 rfl T.z_range (pa_consD (pe_of (pe_of (pv 1) fun _ _ _ h => cv_varF rfl h) fun _ _ _ h => cv_fe h) pa_nilD)) fun _ _ _ h => cv_rng1 h) (blkOk_by (own := [("k", 3)]) (N := N__law_code) (sc := defScope S__law_code) (by decide +kernel)) (fun _ _ _ _ _ => (pg_of (pg_name (i := 3) sc.nd rfl (by first | exact Or.inl rfl | exact Or.inr rfl)) fun _ _ _ _ h => cv_gname rfl (by decide) h)) (fun _ _ _ _ _ => (pts_of pts_nil fun _ _ _ h => cv_yes h)) (fun _ _ _ _ _ => (pe_of (pe_op op_addU (pe_of (pe_of (pe_call G__law_word (hr.mono (by decide)) (by rfl) T.g__law_word T.F__law_word.kp b__law_word .nil pass0 (pa_consD (pe_of (pe_of (pv 0) fun _ _ _ h => cv_varF rfl h) fun _ _ _ h => cv_fe h) (pa_consD (pe_of (pe_of pe_int fun _ _ _ h => cv_int h) fun _ _ _ h => cv_wk .e h) pa_nilD))) fun _ _ _ h => cv_call h) fun _ _ _ h => cv_wk .e h) (pe_of (pe_of (pe_call G__law_pick (hr.mono (by decide)) (by rfl) T.g__law_pick T.F__law_pick.kp b__law_pick .nil pass0 (pa_consD (pe_of (pe_of (pv 0) fun _ _ _ h => cv_varF rfl h) fun _ _ _ h => cv_fe h) (pa_consD (pe_of (pe_of (pe_lst (pa_consD (pe_of pe_str fun _ _ _ h => cv_str [97] (by decide +kernel) h) (pa_consD (pe_of pe_str fun _ _ _ h => cv_str [98] (by decide +kernel) h) (pa_consD (pe_of pe_str fun _ _ _ h => cv_str [99] (by decide +kernel) h) (pa_consD (pe_of pe_str fun _ _ _ h => cv_str [97] (by decide +kernel) h) pa_nilD))))) fun _ _ _ h => cv_lst h) fun _ _ _ h => cv_wk .e h) pa_nilD))) fun _ _ _ h => cv_call h) fun _ _ _ h => cv_wk .e h)) fun _ _ _ h => cv_op od_add h))) fun _ _ _ h => cvs_setOv (fun _ _ _ h => cv_lc .f h) h) (pss_consD (ps_of (ps_if (PW.pt (pw_of (pw_and (pt_of (pt_cmpR (op_eqU hu64) (pe_of (pe_of (pe_call G__law_draw (hr.mono (by decide)) (by rfl) T.g__law_draw T.F__law_draw.kp b__law_draw .nil pass0 (pa_consD (pe_of (pe_of (pv 0) fun _ _ _ h => cv_varF rfl h) fun _ _ _ h => cv_fe h) (pa_consD (pe_of (pe_of pe_int fun _ _ _ h => cv_int h) fun _ _ _ h => cv_wk .e h) pa_nilD))) fun _ _ _ h => cv_call h) fun _ _ _ h => cv_wk .e h) (pe_of (pe_of pe_int fun _ _ _ h => cv_int h) fun _ _ _ h => cv_wk .e h) (nomark _)) fun _ _ _ h => cv_tOf (fun _ _ _ h => cv_op od_eq h) h) (pw_and1 (pt_of (pt_cmpR op_gt (pe_of (pe_of (pv 1) fun _ _ _ h => cv_varF rfl h) fun _ _ _ h => cv_fe h) (pe_of (pe_of pe_int fun _ _ _ h => cv_int h) fun _ _ _ h => cv_wk .e h) (nomark _)) fun _ _ _ h => cv_tOf (fun _ _ _ h => cv_op od_B0 h) h))) fun _ _ _ h => cv_and h)) (pss_oneD (ps_of (ps_asg (pe_of (pe_of (pe_op op_addU (pe_of (pe_ix ix_seq (pe_of (pv 2) fun _ _ _ h => cv_varE h) (pe_of (pe_of (pe_op op_sub (pe_of (pe_of (pv 1) fun _ _ _ h => cv_varF rfl h) fun _ _ _ h => cv_fe h) (pe_of (pe_of pe_int fun _ _ _ h => cv_int h) fun _ _ _ h => cv_wk .e h)) fun _ _ _ h => cv_op od_I0 h) fun _ _ _ h => cv_wk .e h) (fun _ _ => rfl)) fun _ _ _ h => cv_ix h) (pe_of (pe_of (pe_call G__law_pick (hr.mono (by decide)) (by rfl) T.g__law_pick T.F__law_pick.kp b__law_pick .nil pass0 (pa_consD (pe_of (pe_of (pv 0) fun _ _ _ h => cv_varF rfl h) fun _ _ _ h => cv_fe h) (pa_consD (pe_of (pe_of (pe_lst (pa_consD (pe_of pe_str fun _ _ _ h => cv_str [97] (by decide +kernel) h) (pa_consD (pe_of pe_str fun _ _ _ h => cv_str [] (by decide +kernel) h) (pa_consD (pe_of pe_str fun _ _ _ h => cv_str [98, 97] (by decide +kernel) h) pa_nilD)))) fun _ _ _ h => cv_lst h) fun _ _ _ h => cv_wk .e h) pa_nilD))) fun _ _ _ h => cv_call h) fun _ _ _ h => cv_wk .e h)) fun _ _ _ h => cv_op od_add h) fun _ _ _ h => cv_wk .e h) (pg_sub (pv 2) (pe_of (pe_of pe_int fun _ _ _ h => cv_int h) fun _ _ _ h => cv_wk .e h) set_list)) fun _ _ _ h => cvs_setAt rfl h)) pss_nilD) fun _ _ _ h => cvs_if h) (pss_oneD (ps_of (ps_ret (pe_of (pe_callTy call_tuple_of (by rfl) T.z_tuple (by decide +kernel) (pa_consD (pe_of (pv 2) fun _ _ _ h => cv_varE h) pa_nilD)) fun _ _ _ h => cv_cb cd_tuple h)) fun _ _ _ h => cvs_ret h)))))
abbrev N_coder : List Str := ["words", "k"]
theorem sc_coder : FnScope N_coder ["words"] (defScope S_coder) := ⟨rfl, rfl, rfl, by decide +kernel, rfl, by decide +kernel, by decide +kernel⟩
theorem ok_coder (T : Facts K mg) : FnOk P w K mg base CX0 2 T.a_coder T.d_coder ["words"] (SpD K pl F_coder) := by
  have G_ordered := ok_ordered (P := P) (w := w) (base := base) (pl := pl) T
  have b_ordered : Binds K T.d_ordered ["many", "starts", "steps", "ends"] [] := T.F_ordered.bindsN fun _ _ _ _ _ _ us hl => match us, hl with | [_, _, _, _], _ => rfl
  refine T.F_coder.ok sc_coder (len_of len_coder) (fun cdv A outer s H vs Q E hr h => ⟨liftS ⟨K, pl, M_coder⟩ sem_coder, PSs.nox ?_, body_rd h own_coder pure_coder⟩)
  have hu := hu_of hr
  have hu64 := room64 hr
  have hu65 := room65 hr
  have sc := sc_coder
  exact (pss_oneD (ps_of (ps_ret (pe_of (pe_call G_ordered (hr.mono (by decide)) (by rfl) T.g_ordered T.F_ordered.kp b_ordered .nil pass0 (pa_consD (pe_of (pe_of pe_int fun _ _ _ h => cv_int h) fun _ _ _ h => cv_wk .e h) (pa_consD (pe_of (pe_of (pe_lst (pa_consD (pe_of pe_int fun _ _ _ h => cv_int h) pa_nilD)) fun _ _ _ h => cv_lst h) fun _ _ _ h => cv_wk .e h) (pa_consD (pe_of (pe_of (pe_lc (own := [("k", 1)]) rfl sc.nd (pi_of (pi_range1 rfl T.z_range (pa_consD (pe_of (pe_of (pe_callB (call_min2 rfl) (by rfl) T.z_min (by decide +kernel) (pa_consD (pe_of (pe_of pe_int fun _ _ _ h => cv_int h) fun _ _ _ h => cv_wk .e h) (pa_consD (pe_of (pe_of (pe_callB call_len (by rfl) T.z_len (by decide +kernel) (pa_consD (pe_of (pe_of (pv 0) fun _ _ _ h => cv_varF rfl h) fun _ _ _ h => cv_fe h) pa_nilD)) fun _ _ _ h => cv_cb cd_len h) fun _ _ _ h => cv_wk .e h) pa_nilD))) fun _ _ _ h => cv_cb cd_min2 h) fun _ _ _ h => cv_wk .e h) pa_nilD)) fun _ _ _ h => cv_rng1 h) (blkOk_by (own := [("k", 1)]) (N := N_coder) (sc := defScope S_coder) (by decide +kernel)) (fun _ _ _ _ _ => (pg_of (pg_name (i := 1) sc.nd rfl (by first | exact Or.inl rfl | exact Or.inr rfl)) fun _ _ _ _ h => cv_gname rfl (by decide) h)) (fun _ _ _ _ _ => (pts_of pts_nil fun _ _ _ h => cv_yes h)) (fun _ _ _ _ _ => (pe_of (pe_tup (pa_consD (pe_of pe_int fun _ _ _ h => cv_int h) (pa_consD (pe_of (pe_ix ix_seq (pe_of (pe_glob (v := V.str "abc") (by rfl) T.c_LETTERS.choose_spec ⟨_, rfl⟩) fun _ _ _ h => cv_str [97, 98, 99] (by decide +kernel) h) (pe_of (pe_of (pv 1) fun _ _ _ h => cv_varF rfl h) fun _ _ _ h => cv_fe h) (fun _ _ => rfl)) fun _ _ _ h => cv_ix h) (pa_consD (pe_of (pe_of (pe_of (pe_ix ix_seq (pe_of (pv 0) fun _ _ _ h => cv_varF rfl h) (pe_of (pe_of (pv 1) fun _ _ _ h => cv_varF rfl h) fun _ _ _ h => cv_fe h) (fun _ _ => rfl)) fun _ _ _ h => cv_ix h) fun _ _ _ h => cv_fe h) fun _ _ _ h => cv_imm h) (pa_consD (pe_of pe_int fun _ _ _ h => cv_int h) pa_nilD))))) fun _ _ _ h => cv_tup h))) fun _ _ _ h => cv_lc .f h) fun _ _ _ h => cv_wk .e h) (pa_consD (pe_of (pe_of (pe_lst (pa_consD (pe_of pe_int fun _ _ _ h => cv_int h) pa_nilD)) fun _ _ _ h => cv_lst h) fun _ _ _ h => cv_wk .e h) pa_nilD))))) fun _ _ _ h => cv_call h)) fun _ _ _ h => cvs_ret h))
abbrev N_counts : List Str := ["reader", "many", "found", "_", "k", "row", "after"]
theorem sc_counts : FnScope N_counts ["reader", "many"] (defScope S_counts) := ⟨rfl, rfl, rfl, by decide +kernel, rfl, by decide +kernel, by decide +kernel⟩
theorem ok_counts (T : Facts K mg) : FnOk P w K mg base CX0 1 T.a_counts T.d_counts ["reader", "many"] (SpD K pl F_counts) := by
  refine T.F_counts.ok sc_counts (len_of len_counts) (fun cdv A outer s H vs Q E hr h => ⟨liftS ⟨K, pl, M_counts⟩ sem_counts, PSs.nox ?_, body_rd h own_counts pure_counts⟩)
  have hu := hu_of hr
  have hu64 := room64 hr
  have hu65 := room65 hr
  have sc := sc_counts
  exact (pss_consD (ps_of (ps_set (i := 2) sc.nd rfl (by first | exact Or.inl rfl | exact Or.inr rfl) (pe_of (pe_lc (own := [("k", 4)]) rfl sc.nd (pi_of (pi_range1 rfl T.z_range (pa_consD (pe_of (pe_of (pe_callB call_len (by rfl) T.z_len (by decide +kernel) (pa_consD (pe_of (pe_of (pe_ix ix_seq (pe_of (pv 0) fun _ _ _ h => cv_varF rfl h) (pe_of (pe_of pe_int fun _ _ _ h => cv_int h) fun _ _ _ h => cv_wk .e h) (fun _ _ => rfl)) fun _ _ _ h => cv_ix h) fun _ _ _ h => cv_fe h) pa_nilD)) fun _ _ _ h => cv_cb cd_len h) fun _ _ _ h => cv_wk .e h) pa_nilD)) fun _ _ _ h => cv_rng1 h) (blkOk_by (own := [("k", 4)]) (N := N_counts) (sc := defScope S_counts) (by decide +kernel)) (fun _ _ _ _ _ => (pg_of (pg_name (i := 4) sc.nd rfl (by first | exact Or.inl rfl | exact Or.inr rfl)) fun _ _ _ _ h => cv_gname rfl (by decide) h)) (fun _ _ _ _ _ => (pts_of pts_nil fun _ _ _ h => cv_yes h)) (fun _ _ _ _ _ => (pe_of (pe_ifExp (pt_of (pt_cmpR (op_inU hu65) (pe_of (pe_of (pv 4) fun _ _ _ h => cv_varF rfl h) fun _ _ _ h => cv_fe h) (pe_of (pe_of (pe_ix ix_seq (pe_of (pv 0) fun _ _ _ h => cv_varF rfl h) (pe_of (pe_of pe_int fun _ _ _ h => cv_int h) fun _ _ _ h => cv_wk .e h) (fun _ _ => rfl)) fun _ _ _ h => cv_ix h) fun _ _ _ h => cv_fe h) (by rfl)) fun _ _ _ h => cv_tOf (fun _ _ _ h => cv_op od_in h) h) (pe_of pe_int fun _ _ _ h => cv_int h) (pe_of pe_int fun _ _ _ h => cv_int h)) fun _ _ _ h => cv_if h))) fun _ _ _ h => cv_lc .f h)) fun _ _ _ h => cvs_setO h) (pss_consD (ps_of (ps_for PassesOwn.never rfl (pi_of (pi_range1 rfl T.z_range (pa_consD (pe_of (pe_of (pv 1) fun _ _ _ h => cv_varF rfl h) fun _ _ _ h => cv_fe h) pa_nilD)) fun _ _ _ h => cv_rng1 h) (pg_of (pg_name (i := 3) sc.nd rfl (by first | exact Or.inl rfl | exact Or.inr rfl)) fun _ _ _ _ h => cv_gname rfl trivial h) (pss_oneD (ps_of (ps_set (i := 2) sc.nd rfl (by first | exact Or.inl rfl | exact Or.inr rfl) (pe_of (pe_lc (own := [("row", 5)]) rfl sc.nd (pi_of (pi_any (pe_of (pe_ix ix_seq (pe_of (pv 0) fun _ _ _ h => cv_varF rfl h) (pe_of (pe_of pe_int fun _ _ _ h => cv_int h) fun _ _ _ h => cv_wk .e h) (fun _ _ => rfl)) fun _ _ _ h => cv_ix h)) fun _ _ _ h => cv_it h) (blkOk_by (own := [("row", 5)]) (N := N_counts) (sc := defScope S_counts) (by decide +kernel)) (fun _ _ _ _ _ => (pg_of (pg_name (i := 5) sc.nd rfl (by first | exact Or.inl rfl | exact Or.inr rfl)) fun _ _ _ _ h => cv_gname rfl (by decide) h)) (fun _ _ _ _ _ => (pts_of pts_nil fun _ _ _ h => cv_yes h)) (fun _ _ _ _ _ => (pe_of (pe_callB (cr_sum rfl) (by rfl) T.z_sum (by decide +kernel) (pa_consD (pe_of (pe_of (pe_lc (own := [("after", 6)]) rfl sc.nd (pi_of (pi_any (pe_of (pv 5) fun _ _ _ h => cv_varF rfl h)) fun _ _ _ h => cv_it h) (blkOk_by (own := [("after", 6)]) (by rfl)) (fun _ _ _ _ _ => (pg_of (pg_name (i := 6) sc.nd rfl (by first | exact Or.inl rfl | exact Or.inr rfl)) fun _ _ _ _ h => cv_gname rfl (by decide) h)) (fun _ _ _ _ _ => (pts_of pts_nil fun _ _ _ h => cv_yes h)) (fun _ _ _ _ _ => (pe_of (pe_of (pe_ix ix_seq (pe_of (pv 2) fun _ _ _ h => cv_varE h) (pe_of (pe_of (pv 6) fun _ _ _ h => cv_varF rfl h) fun _ _ _ h => cv_fe h) (fun _ _ => rfl)) fun _ _ _ h => cv_ix h) fun _ _ _ h => cv_imm h))) fun _ _ _ h => cv_lc .f h) fun _ _ _ h => cv_wk .e h) pa_nilD)) fun _ _ _ h => cv_cb cd_sum h))) fun _ _ _ h => cv_lc .f h)) fun _ _ _ h => cvs_setO h))) fun _ _ _ h => cvs_for (V := fun _ => True) h) (pss_oneD (ps_of (ps_ret (pv 2)) fun _ _ _ h => cvs_retO rfl h))))
abbrev N_count : List Str := ["reader", "many"]
theorem sc_count : FnScope N_count ["reader", "many"] (defScope S_count) := ⟨rfl, rfl, rfl, by decide +kernel, rfl, by decide +kernel, by decide +kernel⟩
theorem ok_count (T : Facts K mg) : FnOk P w K mg base CX0 2 T.a_count T.d_count ["reader", "many"] (SpD K pl F_count) := by
  have G_counts := ok_counts (P := P) (w := w) (base := base) (pl := pl) T
  have b_counts : Binds K T.d_counts ["reader", "many"] [] := T.F_counts.bindsN fun _ _ _ _ _ _ us hl => match us, hl with | [_, _], _ => rfl
  refine T.F_count.ok sc_count (len_of len_count) (fun cdv A outer s H vs Q E hr h => ⟨liftS ⟨K, pl, M_count⟩ sem_count, PSs.nox ?_, body_rd h own_count pure_count⟩)
  have hu := hu_of hr
  have hu64 := room64 hr
  have hu65 := room65 hr
  have sc := sc_count
  exact (pss_oneD (ps_of (ps_ret (pe_of (pe_ix ix_seq (show PE _ _ (lift ⟨K, pl, M_count⟩ .n (dCall F_counts (dCons (dVar 0) (dCons (dVar 1) dNil)))) from (pe_of (pe_call G_counts (hr.mono (by decide)) (by rfl) T.g_counts T.F_counts.kp b_counts .nil pass0 (pa_consD (pe_of (pe_of (pv 0) fun _ _ _ h => cv_varF rfl h) fun _ _ _ h => cv_fe h) (pa_consD (pe_of (pe_of (pv 1) fun _ _ _ h => cv_varF rfl h) fun _ _ _ h => cv_fe h) pa_nilD))) fun _ _ _ h => cv_call h)) (pe_of (pe_of pe_int fun _ _ _ h => cv_int h) fun _ _ _ h => cv_wk .e h) (fun _ _ => rfl)) fun _ _ _ h => cv_ix h)) fun _ _ _ h => cvs_ret h))
abbrev N_rests_of : List Str := ["words", "ways", "i", "j"]
theorem sc_rests_of : FnScope N_rests_of ["words"] (defScope S_rests_of) := ⟨rfl, rfl, rfl, by decide +kernel, rfl, by decide +kernel, by decide +kernel⟩
theorem ok_rests_of (T : Facts K mg) : FnOk P w K mg base CX0 1 T.a_rests_of T.d_rests_of ["words"] (SpD K pl F_rests_of) := by
  refine T.F_rests_of.ok sc_rests_of (len_of len_rests_of) (fun cdv A outer s H vs Q E hr h => ⟨liftS ⟨K, pl, M_rests_of⟩ sem_rests_of, PSs.nox ?_, body_rd h own_rests_of pure_rests_of⟩)
  have hu := hu_of hr
  have hu64 := room64 hr
  have hu65 := room65 hr
  have sc := sc_rests_of
  exact (pss_consD (ps_of (ps_set (i := 1) sc.nd rfl (by first | exact Or.inl rfl | exact Or.inr rfl) (pe_of pe_dnewK fun _ _ _ h => cv_dnewK h)) fun _ _ _ h => cvs_setO h) (pss_consD (ps_of (ps_for PassesOwn.never rfl (pi_of (pi_range1 rfl T.z_range (pa_consD (pe_of (pe_of (pe_callB call_len (by rfl) T.z_len (by decide +kernel) (pa_consD (pe_of (pe_of (pv 0) fun _ _ _ h => cv_varF rfl h) fun _ _ _ h => cv_fe h) pa_nilD)) fun _ _ _ h => cv_cb cd_len h) fun _ _ _ h => cv_wk .e h) pa_nilD)) fun _ _ _ h => cv_rng1 h) (pg_of (pg_name (i := 2) sc.nd rfl (by first | exact Or.inl rfl | exact Or.inr rfl)) fun _ _ _ _ h => cv_gname rfl trivial h) (pss_oneD (ps_of (ps_for PassesOwn.never rfl (pi_of (pi_range1 rfl T.z_range (pa_consD (pe_of (pe_of (pe_callB call_len (by rfl) T.z_len (by decide +kernel) (pa_consD (pe_of (pe_of (pv 0) fun _ _ _ h => cv_varF rfl h) fun _ _ _ h => cv_fe h) pa_nilD)) fun _ _ _ h => cv_cb cd_len h) fun _ _ _ h => cv_wk .e h) pa_nilD)) fun _ _ _ h => cv_rng1 h) (pg_of (pg_name (i := 3) sc.nd rfl (by first | exact Or.inl rfl | exact Or.inr rfl)) fun _ _ _ _ h => cv_gname rfl trivial h) (pss_oneD (ps_of (ps_if (PW.pt (pw_of (pw_and (pt_of (pt_cmpR (op_neU hu64) (pe_of (pe_of (pv 2) fun _ _ _ h => cv_varF rfl h) fun _ _ _ h => cv_fe h) (pe_of (pe_of (pv 3) fun _ _ _ h => cv_varF rfl h) fun _ _ _ h => cv_fe h) (nomark _)) fun _ _ _ h => cv_tOf (fun _ _ _ h => cv_op od_ne h) h) (pw_of (pw_and (pt_of (pt_cmpR (op_neU hu64) (pe_of (pe_of (pe_ix ix_seq (pe_of (pv 0) fun _ _ _ h => cv_varF rfl h) (pe_of (pe_of (pv 2) fun _ _ _ h => cv_varF rfl h) fun _ _ _ h => cv_fe h) (fun _ _ => rfl)) fun _ _ _ h => cv_ix h) fun _ _ _ h => cv_fe h) (pe_of (pe_of (pe_ix ix_seq (pe_of (pv 0) fun _ _ _ h => cv_varF rfl h) (pe_of (pe_of (pv 3) fun _ _ _ h => cv_varF rfl h) fun _ _ _ h => cv_fe h) (fun _ _ => rfl)) fun _ _ _ h => cv_ix h) fun _ _ _ h => cv_fe h) (nomark _)) fun _ _ _ h => cv_tOf (fun _ _ _ h => cv_op od_ne h) h) (pw_and1 (pt_of (pt_val (pe_of (pe_of (pe_m1 F.slot_str_startswith F.type_str_startswith mt_startswith (pe_of (pe_of (pe_ix ix_seq (pe_of (pv 0) fun _ _ _ h => cv_varF rfl h) (pe_of (pe_of (pv 3) fun _ _ _ h => cv_varF rfl h) fun _ _ _ h => cv_fe h) (fun _ _ => rfl)) fun _ _ _ h => cv_ix h) fun _ _ _ h => cv_fe h) (pe_of (pe_of (pe_ix ix_seq (pe_of (pv 0) fun _ _ _ h => cv_varF rfl h) (pe_of (pe_of (pv 2) fun _ _ _ h => cv_varF rfl h) fun _ _ _ h => cv_fe h) (fun _ _ => rfl)) fun _ _ _ h => cv_ix h) fun _ _ _ h => cv_fe h)) fun _ _ _ h => cv_m1 md_startswith h) fun _ _ _ h => cv_wk .e h)) fun _ _ _ h => cv_tB h))) fun _ _ _ h => cv_and h)) fun _ _ _ h => cv_and h)) (pss_oneD (ps_of (ps_expr (pe_dsetd (pv 1) (pe_of (pe_of (pe_slice sl_any (show PE _ _ (lift ⟨K, pl, M_rests_of⟩ .f (dOp fSub (dVar 0) (dVar 3))) from (pe_of (pe_ix ix_seq (pe_of (pv 0) fun _ _ _ h => cv_varF rfl h) (pe_of (pe_of (pv 3) fun _ _ _ h => cv_varF rfl h) fun _ _ _ h => cv_fe h) (fun _ _ => rfl)) fun _ _ _ h => cv_ix h)) (po_of (po_some (pe_of (pe_of (pe_callB call_len (by rfl) T.z_len (by decide +kernel) (pa_consD (pe_of (pe_of (pe_ix ix_seq (pe_of (pv 0) fun _ _ _ h => cv_varF rfl h) (pe_of (pe_of (pv 2) fun _ _ _ h => cv_varF rfl h) fun _ _ _ h => cv_fe h) (fun _ _ => rfl)) fun _ _ _ h => cv_ix h) fun _ _ _ h => cv_fe h) pa_nilD)) fun _ _ _ h => cv_cb cd_len h) fun _ _ _ h => cv_wk .e h)) fun _ _ _ h => cv_part h) (po_of po_none fun _ _ _ h => cv_noPart h)) fun _ _ _ h => cv_sl h) fun _ _ _ h => cv_fe h) (pe_of (pe_of (pe_tup (pa_consD (pe_of (pe_tup (pa_consD (pe_of (pe_of (pe_of (pv 2) fun _ _ _ h => cv_varF rfl h) fun _ _ _ h => cv_fe h) fun _ _ _ h => cv_imm h) pa_nilD)) fun _ _ _ h => cv_tup h) (pa_consD (pe_of (pe_tup (pa_consD (pe_of (pe_of (pe_of (pv 3) fun _ _ _ h => cv_varF rfl h) fun _ _ _ h => cv_fe h) fun _ _ _ h => cv_imm h) pa_nilD)) fun _ _ _ h => cv_tup h) pa_nilD))) fun _ _ _ h => cv_tup h) fun _ _ _ h => cv_wk .e h) ⟨rfl, rfl, rfl, rfl⟩)) fun _ _ _ h => cvs_setd rfl h)) pss_nilD) fun _ _ _ h => cvs_if h))) fun _ _ _ h => cvs_for (V := fun _ => True) h))) fun _ _ _ h => cvs_for (V := fun _ => True) h) (pss_oneD (ps_of (ps_ret (pv 1)) fun _ _ _ h => cvs_retO rfl h))))
abbrev N_grown : List Str := ["words", "ways", "rest", "short", "long", "found", "k"]
theorem sc_grown : FnScope N_grown ["words", "ways", "rest"] (defScope S_grown) := ⟨rfl, rfl, rfl, by decide +kernel, rfl, by decide +kernel, by decide +kernel⟩
theorem ok_grown (T : Facts K mg) : FnOk P w K mg base CX0 1 T.a_grown T.d_grown ["words", "ways", "rest"] (SpD K pl F_grown) := by
  refine T.F_grown.ok sc_grown (len_of len_grown) (fun cdv A outer s H vs Q E hr h => ⟨liftS ⟨K, pl, M_grown⟩ sem_grown, PSs.nox ?_, body_rd h own_grown pure_grown⟩)
  have hu := hu_of hr
  have hu64 := room64 hr
  have hu65 := room65 hr
  have sc := sc_grown
  exact (pss_consD (ps_of (ps_asg (pe_of (pe_of (pe_of (pe_dget hu (pe_of (pe_of (pv 1) fun _ _ _ h => cv_varF rfl h) fun _ _ _ h => cv_fe h) (pe_of (pe_of (pv 2) fun _ _ _ h => cv_varF rfl h) fun _ _ _ h => cv_fe h) (fun _ _ => rfl)) fun _ _ _ h => cv_dget h) fun _ _ _ h => cv_imm h) fun _ _ _ h => cv_wk .f h) (pg_of (pg_tup rfl (pgs_of (pgs_cons (pg_of (pg_name (i := 3) sc.nd rfl (by first | exact Or.inl rfl | exact Or.inr rfl)) fun _ _ _ _ h => cv_gname rfl trivial h) (pgs_of (pgs_cons (pg_of (pg_name (i := 4) sc.nd rfl (by first | exact Or.inl rfl | exact Or.inr rfl)) fun _ _ _ _ h => cv_gname rfl trivial h) (pgs_of pgs_nil fun _ _ _ _ h => cv_gnil h)) fun _ _ _ _ h => cv_gcons h)) fun _ _ _ _ h => cv_gcons h)) fun _ _ _ _ h => cv_gtup h)) fun _ _ _ h => cvs_asg (V := fun _ => True) h) (pss_consD (ps_of (ps_set (i := 5) sc.nd rfl (by first | exact Or.inl rfl | exact Or.inr rfl) (pe_of (pe_lst pa_nilD) fun _ _ _ h => cv_lst h)) fun _ _ _ h => cvs_setO h) (pss_consD (ps_of (ps_for PassesOwn.never rfl (pi_of (pi_range1 rfl T.z_range (pa_consD (pe_of (pe_of (pe_callB call_len (by rfl) T.z_len (by decide +kernel) (pa_consD (pe_of (pe_of (pv 0) fun _ _ _ h => cv_varF rfl h) fun _ _ _ h => cv_fe h) pa_nilD)) fun _ _ _ h => cv_cb cd_len h) fun _ _ _ h => cv_wk .e h) pa_nilD)) fun _ _ _ h => cv_rng1 h) (pg_of (pg_name (i := 6) sc.nd rfl (by first | exact Or.inl rfl | exact Or.inr rfl)) fun _ _ _ _ h => cv_gname rfl trivial h) (pss_oneD (ps_of (ps_if (pt_of (pt_val (pe_of (pe_of (pe_m1 F.slot_str_startswith F.type_str_startswith mt_startswith (pe_of (pe_of (pv 2) fun _ _ _ h => cv_varF rfl h) fun _ _ _ h => cv_fe h) (pe_of (pe_of (pe_ix ix_seq (pe_of (pv 0) fun _ _ _ h => cv_varF rfl h) (pe_of (pe_of (pv 6) fun _ _ _ h => cv_varF rfl h) fun _ _ _ h => cv_fe h) (fun _ _ => rfl)) fun _ _ _ h => cv_ix h) fun _ _ _ h => cv_fe h)) fun _ _ _ h => cv_m1 md_startswith h) fun _ _ _ h => cv_wk .e h)) fun _ _ _ h => cv_tB h) (pss_oneD (ps_of (ps_expr (pe_bm PySem.F.plainAttrs_list PySem.F.slot_list_append PySem.F.type_list_append mt_append (pv 5) (pa_cons (pe_of (pe_of (pe_tup (pa_consD (pe_of (pe_of (pe_of (pe_slice sl_any (pe_of (pv 2) fun _ _ _ h => cv_varF rfl h) (po_of (po_some (pe_of (pe_of (pe_callB call_len (by rfl) T.z_len (by decide +kernel) (pa_consD (pe_of (pe_of (pe_ix ix_seq (pe_of (pv 0) fun _ _ _ h => cv_varF rfl h) (pe_of (pe_of (pv 6) fun _ _ _ h => cv_varF rfl h) fun _ _ _ h => cv_fe h) (fun _ _ => rfl)) fun _ _ _ h => cv_ix h) fun _ _ _ h => cv_fe h) pa_nilD)) fun _ _ _ h => cv_cb cd_len h) fun _ _ _ h => cv_wk .e h)) fun _ _ _ h => cv_part h) (po_of po_none fun _ _ _ h => cv_noPart h)) fun _ _ _ h => cv_sl h) fun _ _ _ h => cv_fe h) fun _ _ _ h => cv_imm h) (pa_consD (pe_of (pe_tup (pa_consD (pe_of (pe_op op_addU (pe_of (pe_of (pv 3) fun _ _ _ h => cv_varF rfl h) fun _ _ _ h => cv_fe h) (pe_of (pe_of (pe_tup (pa_consD (pe_of (pe_of (pe_of (pv 6) fun _ _ _ h => cv_varF rfl h) fun _ _ _ h => cv_fe h) fun _ _ _ h => cv_imm h) pa_nilD)) fun _ _ _ h => cv_tup h) fun _ _ _ h => cv_wk .e h)) fun _ _ _ h => cv_op od_add h) (pa_consD (pe_of (pe_of (pe_of (pv 4) fun _ _ _ h => cv_varF rfl h) fun _ _ _ h => cv_fe h) fun _ _ _ h => cv_imm h) pa_nilD))) fun _ _ _ h => cv_tup h) pa_nilD))) fun _ _ _ h => cv_tup h) fun _ _ _ h => cv_wk .e h) pa_nil))) fun _ _ _ h => cvs_append rfl h)) (pss_oneD (ps_of (ps_if (pt_of (pt_val (pe_of (pe_of (pe_m1 F.slot_str_startswith F.type_str_startswith mt_startswith (pe_of (pe_of (pe_ix ix_seq (pe_of (pv 0) fun _ _ _ h => cv_varF rfl h) (pe_of (pe_of (pv 6) fun _ _ _ h => cv_varF rfl h) fun _ _ _ h => cv_fe h) (fun _ _ => rfl)) fun _ _ _ h => cv_ix h) fun _ _ _ h => cv_fe h) (pe_of (pe_of (pv 2) fun _ _ _ h => cv_varF rfl h) fun _ _ _ h => cv_fe h)) fun _ _ _ h => cv_m1 md_startswith h) fun _ _ _ h => cv_wk .e h)) fun _ _ _ h => cv_tB h) (pss_oneD (ps_of (ps_expr (pe_bm PySem.F.plainAttrs_list PySem.F.slot_list_append PySem.F.type_list_append mt_append (pv 5) (pa_cons (pe_of (pe_of (pe_tup (pa_consD (pe_of (pe_of (pe_of (pe_slice sl_any (show PE _ _ (lift ⟨K, pl, M_grown⟩ .f (dOp fSub (dVar 0) (dVar 6))) from (pe_of (pe_ix ix_seq (pe_of (pv 0) fun _ _ _ h => cv_varF rfl h) (pe_of (pe_of (pv 6) fun _ _ _ h => cv_varF rfl h) fun _ _ _ h => cv_fe h) (fun _ _ => rfl)) fun _ _ _ h => cv_ix h)) (po_of (po_some (pe_of (pe_of (pe_callB call_len (by rfl) T.z_len (by decide +kernel) (pa_consD (pe_of (pe_of (pv 2) fun _ _ _ h => cv_varF rfl h) fun _ _ _ h => cv_fe h) pa_nilD)) fun _ _ _ h => cv_cb cd_len h) fun _ _ _ h => cv_wk .e h)) fun _ _ _ h => cv_part h) (po_of po_none fun _ _ _ h => cv_noPart h)) fun _ _ _ h => cv_sl h) fun _ _ _ h => cv_fe h) fun _ _ _ h => cv_imm h) (pa_consD (pe_of (pe_tup (pa_consD (pe_of (pe_of (pe_of (pv 4) fun _ _ _ h => cv_varF rfl h) fun _ _ _ h => cv_fe h) fun _ _ _ h => cv_imm h) (pa_consD (pe_of (pe_op op_addU (pe_of (pe_of (pv 3) fun _ _ _ h => cv_varF rfl h) fun _ _ _ h => cv_fe h) (pe_of (pe_of (pe_tup (pa_consD (pe_of (pe_of (pe_of (pv 6) fun _ _ _ h => cv_varF rfl h) fun _ _ _ h => cv_fe h) fun _ _ _ h => cv_imm h) pa_nilD)) fun _ _ _ h => cv_tup h) fun _ _ _ h => cv_wk .e h)) fun _ _ _ h => cv_op od_add h) pa_nilD))) fun _ _ _ h => cv_tup h) pa_nilD))) fun _ _ _ h => cv_tup h) fun _ _ _ h => cv_wk .e h) pa_nil))) fun _ _ _ h => cvs_append rfl h)) pss_nilD) fun _ _ _ h => cvs_if h))) fun _ _ _ h => cvs_if h))) fun _ _ _ h => cvs_for (V := fun _ => True) h) (pss_oneD (ps_of (ps_ret (pv 5)) fun _ _ _ h => cvs_retO rfl h)))))
abbrev N_search : List Str := ["words", "i", "j", "ways", "waiting", "at", "rest", "rows"]
theorem sc_search : FnScope N_search ["words"] (defScope S_search) := ⟨rfl, rfl, rfl, by decide +kernel, rfl, by decide +kernel, by decide +kernel⟩
theorem ok_search (T : Facts K mg) : FnOk P w K mg base CX0 2 T.a_search T.d_search ["words"] (SpD K pl F_search_codes) := by
  have G_rests_of := ok_rests_of (P := P) (w := w) (base := base) (pl := pl) T
  have b_rests_of : Binds K T.d_rests_of ["words"] [] := T.F_rests_of.bindsN fun _ _ _ _ _ _ us hl => match us, hl with | [_], _ => rfl
  have G_grown := ok_grown (P := P) (w := w) (base := base) (pl := pl) T
  have b_grown : Binds K T.d_grown ["words", "ways", "rest"] [] := T.F_grown.bindsN fun _ _ _ _ _ _ us hl => match us, hl with | [_, _, _], _ => rfl
  refine T.F_search.ok sc_search (len_of len_search_codes) (fun cdv A outer s H vs Q E hr h => ⟨liftS ⟨K, pl, M_search_codes⟩ sem_search_codes, PSs.nox ?_, body_rd h own_search_codes pure_search_codes⟩)
  have hu := hu_of hr
  have hu64 := room64 hr
  have hu65 := room65 hr
  have sc := sc_search
  exact (pss_consD (ps_of (ps_for PassesOwn.never rfl (pi_of (pi_range1 rfl T.z_range (pa_consD (pe_of (pe_of (pe_callB call_len (by rfl) T.z_len (by decide +kernel) (pa_consD (pe_of (pe_of (pv 0) fun _ _ _ h => cv_varF rfl h) fun _ _ _ h => cv_fe h) pa_nilD)) fun _ _ _ h => cv_cb cd_len h) fun _ _ _ h => cv_wk .e h) pa_nilD)) fun _ _ _ h => cv_rng1 h) (pg_of (pg_name (i := 1) sc.nd rfl (by first | exact Or.inl rfl | exact Or.inr rfl)) fun _ _ _ _ h => cv_gname rfl trivial h) (pss_oneD (ps_of (ps_for PassesOwn.never rfl (pi_of (pi_range1 rfl T.z_range (pa_consD (pe_of (pe_of (pv 1) fun _ _ _ h => cv_varF rfl h) fun _ _ _ h => cv_fe h) pa_nilD)) fun _ _ _ h => cv_rng1 h) (pg_of (pg_name (i := 2) sc.nd rfl (by first | exact Or.inl rfl | exact Or.inr rfl)) fun _ _ _ _ h => cv_gname rfl trivial h) (pss_oneD (ps_of (ps_if (pt_of (pt_cmpR (op_eqU hu64) (pe_of (pe_of (pe_ix ix_seq (pe_of (pv 0) fun _ _ _ h => cv_varF rfl h) (pe_of (pe_of (pv 1) fun _ _ _ h => cv_varF rfl h) fun _ _ _ h => cv_fe h) (fun _ _ => rfl)) fun _ _ _ h => cv_ix h) fun _ _ _ h => cv_fe h) (pe_of (pe_of (pe_ix ix_seq (pe_of (pv 0) fun _ _ _ h => cv_varF rfl h) (pe_of (pe_of (pv 2) fun _ _ _ h => cv_varF rfl h) fun _ _ _ h => cv_fe h) (fun _ _ => rfl)) fun _ _ _ h => cv_ix h) fun _ _ _ h => cv_fe h) (nomark _)) fun _ _ _ h => cv_tOf (fun _ _ _ h => cv_op od_eq h) h) (pss_oneD (ps_of (ps_ret (pe_of (pe_tup (pa_consD (pe_of pe_non fun _ _ _ h => cv_non h) (pa_consD (pe_of (pe_tup (pa_consD (pe_of (pe_tup (pa_consD (pe_of (pe_of (pe_of (pv 2) fun _ _ _ h => cv_varF rfl h) fun _ _ _ h => cv_fe h) fun _ _ _ h => cv_imm h) pa_nilD)) fun _ _ _ h => cv_tup h) (pa_consD (pe_of (pe_tup (pa_consD (pe_of (pe_of (pe_of (pv 1) fun _ _ _ h => cv_varF rfl h) fun _ _ _ h => cv_fe h) fun _ _ _ h => cv_imm h) pa_nilD)) fun _ _ _ h => cv_tup h) pa_nilD))) fun _ _ _ h => cv_tup h) pa_nilD))) fun _ _ _ h => cv_tup h)) fun _ _ _ h => cvs_ret h)) pss_nilD) fun _ _ _ h => cvs_if h))) fun _ _ _ h => cvs_for (V := fun _ => True) h))) fun _ _ _ h => cvs_for (V := fun _ => True) h) (pss_consD (ps_of (ps_set (i := 3) sc.nd rfl (by first | exact Or.inl rfl | exact Or.inr rfl) (pe_of (pe_call G_rests_of (hr.mono (by decide)) (by rfl) T.g_rests_of T.F_rests_of.kp b_rests_of .nil pass0 (pa_consD (pe_of (pe_of (pv 0) fun _ _ _ h => cv_varF rfl h) fun _ _ _ h => cv_fe h) pa_nilD)) fun _ _ _ h => cv_call h)) fun _ _ _ h => cvs_setO h) (pss_consD (ps_of (ps_set (i := 4) sc.nd rfl (by first | exact Or.inl rfl | exact Or.inr rfl) (pe_of (pe_callTy (call_listD rfl) (by rfl) T.z_list (by decide +kernel) (pa_consD (pe_of (pv 3) fun _ _ _ h => cv_varE h) pa_nilD)) fun _ _ _ h => cv_cb cd_listK h)) fun _ _ _ h => cvs_setO h) (pss_consD (ps_of (ps_set (i := 5) sc.nd rfl (by first | exact Or.inl rfl | exact Or.inr rfl) (pe_of (pe_of pe_int fun _ _ _ h => cv_int h) fun _ _ _ h => cv_wk .f h)) fun _ _ _ h => cvs_set rfl h) (pss_consD (ps_of (ps_while PassesOwn.never (pt_of (pt_cmpR op_lt (pe_of (pe_of (pv 5) fun _ _ _ h => cv_varF rfl h) fun _ _ _ h => cv_fe h) (pe_of (pe_of (pe_callB call_len (by rfl) T.z_len (by decide +kernel) (pa_consD (pe_of (pv 4) fun _ _ _ h => cv_varE h) pa_nilD)) fun _ _ _ h => cv_cb cd_len h) fun _ _ _ h => cv_wk .e h) (nomark _)) fun _ _ _ h => cv_tOf (fun _ _ _ h => cv_op od_B0 h) h) (pss_consD (ps_of (ps_for PassesOwn.never rfl (pi_of (pi_any (pe_of (pe_of (pe_call G_grown (hr.mono (by decide)) (by rfl) T.g_grown T.F_grown.kp b_grown .nil pass0 (pa_consD (pe_of (pe_of (pv 0) fun _ _ _ h => cv_varF rfl h) fun _ _ _ h => cv_fe h) (pa_consD (pe_of (pv 3) fun _ _ _ h => cv_varE h) (pa_consD (pe_of (pe_ix ix_seq (pe_of (pv 4) fun _ _ _ h => cv_varE h) (pe_of (pe_of (pv 5) fun _ _ _ h => cv_varF rfl h) fun _ _ _ h => cv_fe h) (fun _ _ => rfl)) fun _ _ _ h => cv_ix h) pa_nilD)))) fun _ _ _ h => cv_call h) fun _ _ _ h => cv_wk .f h)) fun _ _ _ h => cv_it h) (pg_of (pg_tup rfl (pgs_of (pgs_cons (pg_of (pg_name (i := 6) sc.nd rfl (by first | exact Or.inl rfl | exact Or.inr rfl)) fun _ _ _ _ h => cv_gname rfl trivial h) (pgs_of (pgs_cons (pg_of (pg_name (i := 7) sc.nd rfl (by first | exact Or.inl rfl | exact Or.inr rfl)) fun _ _ _ _ h => cv_gname rfl trivial h) (pgs_of pgs_nil fun _ _ _ _ h => cv_gnil h)) fun _ _ _ _ h => cv_gcons h)) fun _ _ _ _ h => cv_gcons h)) fun _ _ _ _ h => cv_gtup h) (pss_consD (ps_of (ps_if (pt_of (pt_cmpR (op_eqU hu64) (pe_of (pe_of (pv 6) fun _ _ _ h => cv_varF rfl h) fun _ _ _ h => cv_fe h) (pe_of (pe_of pe_str fun _ _ _ h => cv_str [] (by decide +kernel) h) fun _ _ _ h => cv_wk .e h) (nomark _)) fun _ _ _ h => cv_tOf (fun _ _ _ h => cv_op od_eq h) h) (pss_oneD (ps_of (ps_ret (pe_of (pe_tup (pa_consD (pe_of pe_non fun _ _ _ h => cv_non h) (pa_consD (pe_of (pe_of (pe_of (pv 7) fun _ _ _ h => cv_varF rfl h) fun _ _ _ h => cv_fe h) fun _ _ _ h => cv_imm h) pa_nilD))) fun _ _ _ h => cv_tup h)) fun _ _ _ h => cvs_ret h)) pss_nilD) fun _ _ _ h => cvs_if h) (pss_oneD (ps_of (ps_if (pt_of (pt_cmp (pc_dnotin hu (pe_of (pe_of (pv 6) fun _ _ _ h => cv_varF rfl h) fun _ _ _ h => cv_fe h) (pe_of (pv 3) fun _ _ _ h => cv_varE h)) rfl) fun _ _ _ h => cv_tOf (fun _ _ _ h => cv_dnotin h) h) (pss_consD (ps_of (ps_dput hu (pv 3) (pe_of (pe_of (pv 6) fun _ _ _ h => cv_varF rfl h) fun _ _ _ h => cv_fe h) (pe_of (pe_of (pv 7) fun _ _ _ h => cv_varF rfl h) fun _ _ _ h => cv_fe h) rfl) fun _ _ _ h => cvs_put rfl h) (pss_oneD (ps_of (ps_expr (pe_bm PySem.F.plainAttrs_list PySem.F.slot_list_append PySem.F.type_list_append mt_append (pv 4) (pa_cons (pe_of (pe_of (pv 6) fun _ _ _ h => cv_varF rfl h) fun _ _ _ h => cv_fe h) pa_nil))) fun _ _ _ h => cvs_append rfl h))) pss_nilD) fun _ _ _ h => cvs_if h)))) fun _ _ _ h => cvs_for (V := fun _ => True) h) (pss_oneD (ps_of (ps_aug (i := 5) sc.nd rfl (by first | exact Or.inl rfl | exact Or.inr rfl) (pe_of (pe_of pe_int fun _ _ _ h => cv_int h) fun _ _ _ h => cv_wk .e h) ip_add) fun _ _ _ h => cvs_aug rfl h)))) fun _ _ _ h => cvs_while h) (pss_oneD (ps_of (ps_ret (pe_of (pe_tup (pa_consD (pe_of (pe_callTy call_tuple_of (by rfl) T.z_tuple (by decide +kernel) (pa_consD (pe_of (pe_of (pe_callB (cr_sortedDK rfl hu64) (by rfl) T.z_sorted (by decide +kernel) (pa_consD (pe_of (pv 3) fun _ _ _ h => cv_varE h) pa_nilD)) fun _ _ _ h => cv_cb cd_sortedK h) fun _ _ _ h => cv_wk .e h) pa_nilD)) fun _ _ _ h => cv_cb cd_tuple h) (pa_consD (pe_of pe_non fun _ _ _ h => cv_non h) pa_nilD))) fun _ _ _ h => cv_tup h)) fun _ _ _ h => cvs_ret h)))))))
abbrev N_rests : List Str := ["words"]
theorem sc_rests : FnScope N_rests ["words"] (defScope S_rests) := ⟨rfl, rfl, rfl, by decide +kernel, rfl, by decide +kernel, by decide +kernel⟩
theorem ok_rests (T : Facts K mg) : FnOk P w K mg base CX0 3 T.a_rests T.d_rests ["words"] (SpD K pl F_rests) := by
  have G_search := ok_search (P := P) (w := w) (base := base) (pl := pl) T
  have b_search : Binds K T.d_search ["words"] [] := T.F_search.bindsN fun _ _ _ _ _ _ us hl => match us, hl with | [_], _ => rfl
  refine T.F_rests.ok sc_rests (len_of len_rests) (fun cdv A outer s H vs Q E hr h => ⟨liftS ⟨K, pl, M_rests⟩ sem_rests, PSs.nox ?_, body_rd h own_rests pure_rests⟩)
  have hu := hu_of hr
  have hu64 := room64 hr
  have hu65 := room65 hr
  have sc := sc_rests
  exact (pss_oneD (ps_of (ps_ret (pe_of (pe_ix ix_seq (show PE _ _ (lift ⟨K, pl, M_rests⟩ .n (dCall F_search_codes (dCons (dVar 0) dNil))) from (pe_of (pe_call G_search (hr.mono (by decide)) (by rfl) T.g_search T.F_search.kp b_search .nil pass0 (pa_consD (pe_of (pe_of (pv 0) fun _ _ _ h => cv_varF rfl h) fun _ _ _ h => cv_fe h) pa_nilD)) fun _ _ _ h => cv_call h)) (pe_of (pe_of pe_int fun _ _ _ h => cv_int h) fun _ _ _ h => cv_wk .e h) (fun _ _ => rfl)) fun _ _ _ h => cv_ix h)) fun _ _ _ h => cvs_ret h))
abbrev N_two_rows : List Str := ["words"]
theorem sc_two_rows : FnScope N_two_rows ["words"] (defScope S_two_rows) := ⟨rfl, rfl, rfl, by decide +kernel, rfl, by decide +kernel, by decide +kernel⟩
theorem ok_two_rows (T : Facts K mg) : FnOk P w K mg base CX0 3 T.a_two_rows T.d_two_rows ["words"] (SpD K pl F_two_rows) := by
  have G_search := ok_search (P := P) (w := w) (base := base) (pl := pl) T
  have b_search : Binds K T.d_search ["words"] [] := T.F_search.bindsN fun _ _ _ _ _ _ us hl => match us, hl with | [_], _ => rfl
  refine T.F_two_rows.ok sc_two_rows (len_of len_two_rows) (fun cdv A outer s H vs Q E hr h => ⟨liftS ⟨K, pl, M_two_rows⟩ sem_two_rows, PSs.nox ?_, body_rd h own_two_rows pure_two_rows⟩)
  have hu := hu_of hr
  have hu64 := room64 hr
  have hu65 := room65 hr
  have sc := sc_two_rows
  exact (pss_oneD (ps_of (ps_ret (pe_of (pe_ix ix_seq (show PE _ _ (lift ⟨K, pl, M_two_rows⟩ .n (dCall F_search_codes (dCons (dVar 0) dNil))) from (pe_of (pe_call G_search (hr.mono (by decide)) (by rfl) T.g_search T.F_search.kp b_search .nil pass0 (pa_consD (pe_of (pe_of (pv 0) fun _ _ _ h => cv_varF rfl h) fun _ _ _ h => cv_fe h) pa_nilD)) fun _ _ _ h => cv_call h)) (pe_of (pe_of pe_int fun _ _ _ h => cv_int h) fun _ _ _ h => cv_wk .e h) (fun _ _ => rfl)) fun _ _ _ h => cv_ix h)) fun _ _ _ h => cvs_ret h))
abbrev N_steps_from : List Str := ["machine", "state", "step"]
theorem sc_steps_from : FnScope N_steps_from ["machine", "state"] (defScope S_steps_from) := ⟨rfl, rfl, rfl, by decide +kernel, rfl, by decide +kernel, by decide +kernel⟩
theorem ok_steps_from (T : Facts K mg) : FnOk P w K mg base CX0 1 T.a_steps_from T.d_steps_from ["machine", "state"] (SpD K pl F_steps_from) := by
  refine T.F_steps_from.ok sc_steps_from (len_of len_steps_from) (fun cdv A outer s H vs Q E hr h => ⟨liftS ⟨K, pl, M_steps_from⟩ sem_steps_from, PSs.nox ?_, body_rd h own_steps_from pure_steps_from⟩)
  have hu := hu_of hr
  have hu64 := room64 hr
  have hu65 := room65 hr
  have sc := sc_steps_from
  exact (pss_oneD (ps_of (ps_ret (pe_of (pe_lc (own := [("step", 2)]) rfl sc.nd (pi_of (pi_any (pe_of (pe_ix ix_seq (pe_of (pv 0) fun _ _ _ h => cv_varF rfl h) (pe_of (pe_of pe_int fun _ _ _ h => cv_int h) fun _ _ _ h => cv_wk .e h) (fun _ _ => rfl)) fun _ _ _ h => cv_ix h)) fun _ _ _ h => cv_it h) (blkOk_by (own := [("step", 2)]) (N := N_steps_from) (sc := defScope S_steps_from) (by decide +kernel)) (fun _ _ _ _ _ => (pg_of (pg_name (i := 2) sc.nd rfl (by first | exact Or.inl rfl | exact Or.inr rfl)) fun _ _ _ _ h => cv_gname rfl (by decide) h)) (fun _ _ _ _ _ => (pts_one (pt_of (pt_cmpR (op_eqU hu64) (pe_of (pe_of (pe_ix ix_seq (pe_of (pv 2) fun _ _ _ h => cv_varF rfl h) (pe_of (pe_of pe_int fun _ _ _ h => cv_int h) fun _ _ _ h => cv_wk .e h) (fun _ _ => rfl)) fun _ _ _ h => cv_ix h) fun _ _ _ h => cv_fe h) (pe_of (pe_of (pv 1) fun _ _ _ h => cv_varF rfl h) fun _ _ _ h => cv_fe h) (nomark _)) fun _ _ _ h => cv_tOf (fun _ _ _ h => cv_op od_eq h) h))) (fun _ _ _ _ _ => (pe_of (pe_of (pe_of (pv 2) fun _ _ _ h => cv_varF rfl h) fun _ _ _ h => cv_fe h) fun _ _ _ h => cv_imm h))) fun _ _ _ h => cv_lc .f h)) fun _ _ _ h => cvs_ret h))
abbrev N_outputs : List Str := ["machine", "word", "most", "found", "seen", "at", "i", "told", "p", "_", "first", "second", "q", "here"]
theorem sc_outputs : FnScope N_outputs ["machine", "word", "most"] (defScope S_outputs) := ⟨rfl, rfl, rfl, by decide +kernel, rfl, by decide +kernel, by decide +kernel⟩
theorem ok_outputs (T : Facts K mg) : FnOk P w K mg base CX0 2 T.a_outputs T.d_outputs ["machine", "word", "most"] (SpD K pl F_outputs) := by
  have G_steps_from := ok_steps_from (P := P) (w := w) (base := base) (pl := pl) T
  have b_steps_from : Binds K T.d_steps_from ["machine", "state"] [] := T.F_steps_from.bindsN fun _ _ _ _ _ _ us hl => match us, hl with | [_, _], _ => rfl
  refine T.F_outputs.ok sc_outputs (len_of len_outputs) (fun cdv A outer s H vs Q E hr h => ⟨liftS ⟨K, pl, M_outputs⟩ sem_outputs, PSs.nox ?_, body_rd h own_outputs pure_outputs⟩)
  have hu := hu_of hr
  have hu64 := room64 hr
  have hu65 := room65 hr
  have sc := sc_outputs
  exact (pss_consD (ps_of (ps_setLc (i := 3) (own := [("q", 12)]) rfl sc.nd rfl rfl (sw_true rfl rfl rfl (by decide +kernel)) (pi_of (pi_any (pe_of (pe_ix ix_seq (pe_of (pv 0) fun _ _ _ h => cv_varF rfl h) (pe_of (pe_of pe_int fun _ _ _ h => cv_int h) fun _ _ _ h => cv_wk .e h) (fun _ _ => rfl)) fun _ _ _ h => cv_ix h)) fun _ _ _ h => cv_it h) (blkOk_by (own := [("q", 12)]) (N := N_outputs) (sc := defScope S_outputs) (by decide +kernel)) (fun _ _ _ _ _ => (pg_of (pg_name (i := 12) sc.nd rfl (by first | exact Or.inl rfl | exact Or.inr rfl)) fun _ _ _ _ h => cv_gname rfl (by decide) h)) (fun _ _ _ _ _ => (pts_of pts_nil fun _ _ _ h => cv_yes h)) (fun _ _ _ _ _ => (pe_of (pe_tup (pa_consD (pe_of pe_int fun _ _ _ h => cv_int h) (pa_consD (pe_of pe_str fun _ _ _ h => cv_str [] (by decide +kernel) h) (pa_consD (pe_of (pe_of (pe_of (pv 12) fun _ _ _ h => cv_varF rfl h) fun _ _ _ h => cv_fe h) fun _ _ _ h => cv_imm h) pa_nilD)))) fun _ _ _ h => cv_tup h))) fun _ _ _ h => cvs_setOv (fun _ _ _ h => cv_lc .f h) h) (pss_consD (ps_of (ps_setDc (i := 4) (own := [("here", 13)]) (o0_or true) rfl hu sc.nd rfl rfl (swD_true rfl rfl rfl (by decide +kernel)) (pi_of (pi_any (pe_of (pv 3) fun _ _ _ h => cv_varE h)) fun _ _ _ h => cv_it h) (blkOk_by (own := [("here", 13)]) (N := N_outputs) (sc := defScope S_outputs) (by decide +kernel)) (fun _ _ _ _ _ => (pg_of (pg_name (i := 13) sc.nd rfl (by first | exact Or.inl rfl | exact Or.inr rfl)) fun _ _ _ _ h => cv_gname rfl (by decide) h)) (fun _ _ _ _ _ => (pts_of pts_nil fun _ _ _ h => cv_yes h)) (fun _ _ _ _ _ => (pe_of (pe_of (pv 13) fun _ _ _ h => cv_varF rfl h) fun _ _ _ h => cv_fe h)) (fun _ _ _ _ _ => (pe_of (pe_of pe_bl fun _ _ _ h => cv_bl h) fun _ _ _ h => cv_wk .e h))) fun _ _ _ h => cvs_setOv (fun _ _ _ h => cv_dc .e h) h) (pss_consD (ps_of (ps_set (i := 5) sc.nd rfl (by first | exact Or.inl rfl | exact Or.inr rfl) (pe_of (pe_of pe_int fun _ _ _ h => cv_int h) fun _ _ _ h => cv_wk .f h)) fun _ _ _ h => cvs_set rfl h) (pss_consD (ps_of (ps_while PassesOwn.never (pt_of (pt_cmpR op_lt (pe_of (pe_of (pv 5) fun _ _ _ h => cv_varF rfl h) fun _ _ _ h => cv_fe h) (pe_of (pe_of (pe_callB call_len (by rfl) T.z_len (by decide +kernel) (pa_consD (pe_of (pv 3) fun _ _ _ h => cv_varE h) pa_nilD)) fun _ _ _ h => cv_cb cd_len h) fun _ _ _ h => cv_wk .e h) (nomark _)) fun _ _ _ h => cv_tOf (fun _ _ _ h => cv_op od_B0 h) h) (pss_consD (ps_of (ps_asg (pe_of (pe_of (pe_of (pe_ix ix_seq (pe_of (pv 3) fun _ _ _ h => cv_varE h) (pe_of (pe_of (pv 5) fun _ _ _ h => cv_varF rfl h) fun _ _ _ h => cv_fe h) (fun _ _ => rfl)) fun _ _ _ h => cv_ix h) fun _ _ _ h => cv_imm h) fun _ _ _ h => cv_wk .f h) (pg_of (pg_tup rfl (pgs_of (pgs_cons (pg_of (pg_name (i := 6) sc.nd rfl (by first | exact Or.inl rfl | exact Or.inr rfl)) fun _ _ _ _ h => cv_gname rfl trivial h) (pgs_of (pgs_cons (pg_of (pg_name (i := 7) sc.nd rfl (by first | exact Or.inl rfl | exact Or.inr rfl)) fun _ _ _ _ h => cv_gname rfl trivial h) (pgs_of (pgs_cons (pg_of (pg_name (i := 8) sc.nd rfl (by first | exact Or.inl rfl | exact Or.inr rfl)) fun _ _ _ _ h => cv_gname rfl trivial h) (pgs_of pgs_nil fun _ _ _ _ h => cv_gnil h)) fun _ _ _ _ h => cv_gcons h)) fun _ _ _ _ h => cv_gcons h)) fun _ _ _ _ h => cv_gcons h)) fun _ _ _ _ h => cv_gtup h)) fun _ _ _ h => cvs_asg (V := fun _ => True) h) (pss_consD (ps_of (ps_for PassesOwn.never rfl (pi_of (pi_any (pe_of (pe_of (pe_call G_steps_from (hr.mono (by decide)) (by rfl) T.g_steps_from T.F_steps_from.kp b_steps_from .nil pass0 (pa_consD (pe_of (pe_of (pv 0) fun _ _ _ h => cv_varF rfl h) fun _ _ _ h => cv_fe h) (pa_consD (pe_of (pe_of (pv 8) fun _ _ _ h => cv_varF rfl h) fun _ _ _ h => cv_fe h) pa_nilD))) fun _ _ _ h => cv_call h) fun _ _ _ h => cv_wk .f h)) fun _ _ _ h => cv_it h) (pg_of (pg_tup rfl (pgs_of (pgs_cons (pg_of (pg_name (i := 9) sc.nd rfl (by first | exact Or.inl rfl | exact Or.inr rfl)) fun _ _ _ _ h => cv_gname rfl trivial h) (pgs_of (pgs_cons (pg_of (pg_name (i := 10) sc.nd rfl (by first | exact Or.inl rfl | exact Or.inr rfl)) fun _ _ _ _ h => cv_gname rfl trivial h) (pgs_of (pgs_cons (pg_of (pg_name (i := 11) sc.nd rfl (by first | exact Or.inl rfl | exact Or.inr rfl)) fun _ _ _ _ h => cv_gname rfl trivial h) (pgs_of (pgs_cons (pg_of (pg_name (i := 12) sc.nd rfl (by first | exact Or.inl rfl | exact Or.inr rfl)) fun _ _ _ _ h => cv_gname rfl trivial h) (pgs_of pgs_nil fun _ _ _ _ h => cv_gnil h)) fun _ _ _ _ h => cv_gcons h)) fun _ _ _ _ h => cv_gcons h)) fun _ _ _ _ h => cv_gcons h)) fun _ _ _ _ h => cv_gcons h)) fun _ _ _ _ h => cv_gtup h) (pss_consD (ps_of (ps_set (i := 13) sc.nd rfl (by first | exact Or.inl rfl | exact Or.inr rfl) (pe_of (pe_of (pe_tup (pa_consD (pe_of (pe_op op_addU (pe_of (pe_of (pv 6) fun _ _ _ h => cv_varF rfl h) fun _ _ _ h => cv_fe h) (pe_of (pe_of (pe_callB call_len (by rfl) T.z_len (by decide +kernel) (pa_consD (pe_of (pe_of (pv 10) fun _ _ _ h => cv_varF rfl h) fun _ _ _ h => cv_fe h) pa_nilD)) fun _ _ _ h => cv_cb cd_len h) fun _ _ _ h => cv_wk .e h)) fun _ _ _ h => cv_op od_add h) (pa_consD (pe_of (pe_op op_addU (pe_of (pe_of (pv 7) fun _ _ _ h => cv_varF rfl h) fun _ _ _ h => cv_fe h) (pe_of (pe_of (pv 11) fun _ _ _ h => cv_varF rfl h) fun _ _ _ h => cv_fe h)) fun _ _ _ h => cv_op od_add h) (pa_consD (pe_of (pe_of (pe_of (pv 12) fun _ _ _ h => cv_varF rfl h) fun _ _ _ h => cv_fe h) fun _ _ _ h => cv_imm h) pa_nilD)))) fun _ _ _ h => cv_tup h) fun _ _ _ h => cv_wk .f h)) fun _ _ _ h => cvs_set rfl h) (pss_oneD (ps_of (ps_if (PW.pt (pw_of (pw_and (pt_of (pt_cmpR (op_eqU hu64) (pe_of (pe_of (pe_slice sl_any (pe_of (pv 1) fun _ _ _ h => cv_varF rfl h) (po_of (po_some (pe_of (pe_of (pv 6) fun _ _ _ h => cv_varF rfl h) fun _ _ _ h => cv_fe h)) fun _ _ _ h => cv_part h) (po_of (po_some (pe_of (pe_of (pe_op op_addU (pe_of (pe_of (pv 6) fun _ _ _ h => cv_varF rfl h) fun _ _ _ h => cv_fe h) (pe_of (pe_of (pe_callB call_len (by rfl) T.z_len (by decide +kernel) (pa_consD (pe_of (pe_of (pv 10) fun _ _ _ h => cv_varF rfl h) fun _ _ _ h => cv_fe h) pa_nilD)) fun _ _ _ h => cv_cb cd_len h) fun _ _ _ h => cv_wk .e h)) fun _ _ _ h => cv_op od_add h) fun _ _ _ h => cv_wk .e h)) fun _ _ _ h => cv_part h)) fun _ _ _ h => cv_sl h) fun _ _ _ h => cv_fe h) (pe_of (pe_of (pv 10) fun _ _ _ h => cv_varF rfl h) fun _ _ _ h => cv_fe h) (nomark _)) fun _ _ _ h => cv_tOf (fun _ _ _ h => cv_op od_eq h) h) (pw_of (pw_and (pt_of (pt_cmpR op_le (pe_of (pe_of (pe_callB call_len (by rfl) T.z_len (by decide +kernel) (pa_consD (pe_of (pe_of (pe_ix ix_seq (pe_of (pv 13) fun _ _ _ h => cv_varF rfl h) (pe_of (pe_of pe_int fun _ _ _ h => cv_int h) fun _ _ _ h => cv_wk .e h) (fun _ _ => rfl)) fun _ _ _ h => cv_ix h) fun _ _ _ h => cv_fe h) pa_nilD)) fun _ _ _ h => cv_cb cd_len h) fun _ _ _ h => cv_wk .e h) (pe_of (pe_of (pv 2) fun _ _ _ h => cv_varF rfl h) fun _ _ _ h => cv_fe h) (nomark _)) fun _ _ _ h => cv_tOf (fun _ _ _ h => cv_op od_B0 h) h) (pw_and1 (pt_of (pt_cmp (pc_dnotin hu (pe_of (pe_of (pv 13) fun _ _ _ h => cv_varF rfl h) fun _ _ _ h => cv_fe h) (pe_of (pv 4) fun _ _ _ h => cv_varE h)) rfl) fun _ _ _ h => cv_tOf (fun _ _ _ h => cv_dnotin h) h))) fun _ _ _ h => cv_and h)) fun _ _ _ h => cv_and h)) (pss_consD (ps_of (ps_dput hu (pv 4) (pe_of (pe_of (pv 13) fun _ _ _ h => cv_varF rfl h) fun _ _ _ h => cv_fe h) (pe_of (pe_of pe_bl fun _ _ _ h => cv_bl h) fun _ _ _ h => cv_wk .e h) rfl) fun _ _ _ h => cvs_put rfl h) (pss_oneD (ps_of (ps_expr (pe_bm PySem.F.plainAttrs_list PySem.F.slot_list_append PySem.F.type_list_append mt_append (pv 3) (pa_cons (pe_of (pe_of (pv 13) fun _ _ _ h => cv_varF rfl h) fun _ _ _ h => cv_fe h) pa_nil))) fun _ _ _ h => cvs_append rfl h))) pss_nilD) fun _ _ _ h => cvs_if h)))) fun _ _ _ h => cvs_for (V := fun _ => True) h) (pss_oneD (ps_of (ps_aug (i := 5) sc.nd rfl (by first | exact Or.inl rfl | exact Or.inr rfl) (pe_of (pe_of pe_int fun _ _ _ h => cv_int h) fun _ _ _ h => cv_wk .e h) ip_add) fun _ _ _ h => cvs_aug rfl h))))) fun _ _ _ h => cvs_while h) (pss_oneD (ps_of (ps_ret (pe_of (pe_callB (cr_sortedK rfl hu64) (by rfl) T.z_sorted (by decide +kernel) (pa_cons (pe_scK (own := [("i", 6), ("told", 7), ("q", 12)]) rfl sc.nd (pi_of (pi_any (pe_of (pv 3) fun _ _ _ h => cv_varE h)) fun _ _ _ h => cv_it h) (blkOk_by (own := [("i", 6), ("told", 7), ("q", 12)]) (N := N_outputs) (sc := defScope S_outputs) (by decide +kernel)) (fun _ _ _ _ _ => (pg_of (pg_tup rfl (pgs_of (pgs_cons (pg_of (pg_name (i := 6) sc.nd rfl (by first | exact Or.inl rfl | exact Or.inr rfl)) fun _ _ _ _ h => cv_gname rfl (by decide) h) (pgs_of (pgs_cons (pg_of (pg_name (i := 7) sc.nd rfl (by first | exact Or.inl rfl | exact Or.inr rfl)) fun _ _ _ _ h => cv_gname rfl (by decide) h) (pgs_of (pgs_cons (pg_of (pg_name (i := 12) sc.nd rfl (by first | exact Or.inl rfl | exact Or.inr rfl)) fun _ _ _ _ h => cv_gname rfl (by decide) h) (pgs_of pgs_nil fun _ _ _ _ h => cv_gnil h)) fun _ _ _ _ h => cv_gcons h)) fun _ _ _ _ h => cv_gcons h)) fun _ _ _ _ h => cv_gcons h)) fun _ _ _ _ h => cv_gtup h)) (fun _ _ _ _ _ => (pts_one (PW.pt (pw_of (pw_and (pt_of (pt_cmpR (op_eqU hu64) (pe_of (pe_of (pv 6) fun _ _ _ h => cv_varF rfl h) fun _ _ _ h => cv_fe h) (pe_of (pe_of (pe_callB call_len (by rfl) T.z_len (by decide +kernel) (pa_consD (pe_of (pe_of (pv 1) fun _ _ _ h => cv_varF rfl h) fun _ _ _ h => cv_fe h) pa_nilD)) fun _ _ _ h => cv_cb cd_len h) fun _ _ _ h => cv_wk .e h) (nomark _)) fun _ _ _ h => cv_tOf (fun _ _ _ h => cv_op od_eq h) h) (pw_and1 (pt_of (pt_cmpR (op_inU hu65) (pe_of (pe_of (pv 12) fun _ _ _ h => cv_varF rfl h) fun _ _ _ h => cv_fe h) (pe_of (pe_of (pe_ix ix_seq (pe_of (pv 0) fun _ _ _ h => cv_varF rfl h) (pe_of (pe_of pe_int fun _ _ _ h => cv_int h) fun _ _ _ h => cv_wk .e h) (fun _ _ => rfl)) fun _ _ _ h => cv_ix h) fun _ _ _ h => cv_fe h) (by rfl)) fun _ _ _ h => cv_tOf (fun _ _ _ h => cv_op od_in h) h))) fun _ _ _ h => cv_and h)))) (fun _ _ _ _ _ => (pe_of (pe_of (pv 7) fun _ _ _ h => cv_varF rfl h) fun _ _ _ h => cv_fe h))) pa_nil)) fun _ _ _ h => cv_sc .e h)) fun _ _ _ h => cvs_ret h))))))
abbrev N_spelled : List Str := ["words", "row", "k"]
theorem sc_spelled : FnScope N_spelled ["words", "row"] (defScope S_spelled) := ⟨rfl, rfl, rfl, by decide +kernel, rfl, by decide +kernel, by decide +kernel⟩
theorem ok_spelled (T : Facts K mg) : FnOk P w K mg base CX0 1 T.a_spelled T.d_spelled ["words", "row"] (SpD K pl F_spelled) := by
  refine T.F_spelled.ok sc_spelled (len_of len_spelled) (fun cdv A outer s H vs Q E hr h => ⟨liftS ⟨K, pl, M_spelled⟩ sem_spelled, PSs.nox ?_, body_rd h own_spelled pure_spelled⟩)
  have hu := hu_of hr
  have hu64 := room64 hr
  have hu65 := room65 hr
  have sc := sc_spelled
  exact (pss_oneD (ps_of (ps_ret (pe_of (pe_join (pe_of (pe_of pe_str fun _ _ _ h => cv_str [] (by decide +kernel) h) fun _ _ _ h => cv_wk .e h) (pe_of (pe_of (pe_lc (own := [("k", 2)]) rfl sc.nd (pi_of (pi_any (pe_of (pv 1) fun _ _ _ h => cv_varF rfl h)) fun _ _ _ h => cv_it h) (blkOk_by (own := [("k", 2)]) (N := N_spelled) (sc := defScope S_spelled) (by decide +kernel)) (fun _ _ _ _ _ => (pg_of (pg_name (i := 2) sc.nd rfl (by first | exact Or.inl rfl | exact Or.inr rfl)) fun _ _ _ _ h => cv_gname rfl (by decide) h)) (fun _ _ _ _ _ => (pts_of pts_nil fun _ _ _ h => cv_yes h)) (fun _ _ _ _ _ => (pe_of (pe_of (pe_of (pe_ix ix_seq (pe_of (pv 0) fun _ _ _ h => cv_varF rfl h) (pe_of (pe_of (pv 2) fun _ _ _ h => cv_varF rfl h) fun _ _ _ h => cv_fe h) (fun _ _ => rfl)) fun _ _ _ h => cv_ix h) fun _ _ _ h => cv_fe h) fun _ _ _ h => cv_imm h))) fun _ _ _ h => cv_lc .f h) fun _ _ _ h => cv_wk .e h)) fun _ _ _ h => cv_m1 md_join h)) fun _ _ _ h => cvs_ret h))
end
end PD
set_option Elab.async false
set_option linter.all false
set_option maxRecDepth 100000
set_option maxHeartbeats 4000000
namespace PD
open PySem PySem.Spec PyProof.Rows L2
section
variable {P : Program} {w : World} {K : PySem.W.Frag} {mg : Str → Option Value} {base : Heap} {pl : Option (Addr × Addr)}
/-! ### _law_pool -/
def spPool (K : PySem.W.Frag) : Sp := fun vs H Q _ => ∃ (a : Addr) (ns : List Int), vs = [.ref a] ∧ SqL K H a (ns.map V.int) ∧
  ∀ (aP aL : Addr) (H' : Hp) (s : Int), H aL = none → H aP = none → aL ≠ aP → H' aP = some (.lst [.ref aL, .int 0, .int 0, .int 0, .int s]) → H' aL = some (.lst (ns.map V.int)) → (∀ x o, H x = some o → H' x = some o) → Q (.ref aP) H'
abbrev N__law_pool : List Str := ["script", "salt", "cell"]
theorem sc__law_pool : FnScope N__law_pool ["script"] (defScope S__law_pool) := ⟨rfl, rfl, rfl, by decide +kernel, rfl, by decide +kernel, by decide +kernel⟩
theorem sql_mono {K : PySem.W.Frag} {H H' : Hp} {a : Addr} {xs : List V} (h : SqL K H a xs) (m : ∀ x o, H x = some o → H' x = some o) : SqL K H' a xs :=
  h.elim (fun z => .inl (z.elim (fun y => .inl (m _ _ y)) fun ⟨o, y⟩ => .inr ⟨o, m _ _ y⟩)) .inr
theorem upd_sub {H : Hp} {p : Addr} {o : HO} (hp : H p = none) : ∀ x u, H x = some u → upd H p o x = some u := fun x u h => by
  rw [upd_ne (fun e => by rw [e, hp] at h; cases h)]
  exact h
theorem none_sub {H H' : Hp} (m : ∀ x o, H x = some o → H' x = some o) {a : Addr} (h : H' a = none) : H a = none := by
  cases e : H a with
  | none => rfl
  | some o => rw [m a o e] at h; cases h
theorem ok__law_pool (T : Facts K mg) : FnOk P w K mg base CX0 1 T.a__law_pool T.d__law_pool ["script"] (spPool K) := by
  refine T.F__law_pool.ok sc__law_pool (fun vs H Q E h => by obtain ⟨_, _, rfl, _⟩ := h; rfl) (fun cdv A outer s H vs Q E hr h => ?_)
  have hu := hu_of hr
  have hu64 := room64 hr
  have hu65 := room65 hr
  have sc := sc__law_pool
  obtain ⟨a, ns, rfl, hS, q⟩ := h
  refine ⟨_, PSs.nox (pss_cons (ps_set (i := 1) sc.nd rfl (by first | exact Or.inl rfl | exact Or.inr rfl) pe_int) (pss_cons (ps_for PassesOwn.never rfl (pi_any (pe_slice sl_any (pv 0) po_none (po_some pe_int))) (pg_name (i := 2) sc.nd rfl (by first | exact Or.inl rfl | exact Or.inr rfl)) (pss_one (ps_set (i := 1) sc.nd rfl (by first | exact Or.inl rfl | exact Or.inr rfl) (pe_op op_mod (pe_callTy call_int1 (by rfl) T.z_int (by decide +kernel) (pa_cons (pe_op op_addU (pe_op op_mul (pv 1) pe_int) (pv 2)) pa_nil)) pe_int)))) (pss_one (ps_ret (pe_lst (pa_cons (pe_callTy call_list_of (by rfl) T.z_list (by decide +kernel) (pa_cons (pv 0) pa_nil)) (pa_cons pe_int (pa_cons pe_int (pa_cons pe_int (pa_cons (pv 1) pa_nil)))))))))), ?_⟩
  have s0 : L2.start N__law_pool [V.ref a] = [some (.ref a), none, none] := rfl
  rw [s0]
  refine ⟨_, rfl, ?_⟩
  refine ⟨_, rfl, .inl ⟨a, _, rfl, hS, fun p hp => ?_⟩⟩
  have hys : ∀ v ∈ cutV (ns.map V.int) none (some 63), ∃ j : Int, v = .int j := fun v hv => by
    have := List.mem_of_mem_drop (List.mem_of_mem_take hv)
    obtain ⟨j, _, rfl⟩ := List.mem_map.mp this
    exact ⟨j, rfl⟩
  generalize cutV (ns.map V.int) none (some 63) = ys at hys
  have rd : SqL K (upd H p (.lst ys)) p ys := .inl (.inl upd_same)
  refine .inl ⟨p, ys, rfl, rd, fun i m σ H' => (∃ s c, σ = [some (.ref a), some (.int s), c]) ∧ H' = upd H p (.lst ys) ∧ i + m = ys.length, ⟨ys.length, ⟨7, none, rfl⟩, rfl, by omega⟩, ?_⟩
  rintro i m σ H' ⟨⟨s, c, rfl⟩, rfl, hm⟩
  by_cases hi : i < ys.length
  · refine .inr ⟨⟨ys, _, rd, List.getElem?_eq_getElem hi⟩, fun σ H' => (∃ s c, σ = [some (.ref a), some (.int s), c]) ∧ H' = upd H p (.lst ys) ∧ i + 1 + (m - 1) = ys.length, fun σ' H' h => ⟨m - 1, by omega, h⟩, ?_⟩
    rintro x H' ⟨rfl, hx⟩
    have hx := hx ys rd
    obtain ⟨j, rfl⟩ := hys x (List.mem_of_getElem? hx)
    refine ⟨_, rfl, s, 31, rfl, rfl, .inr ⟨by decide, by decide⟩, _, rfl, .inl ⟨_, _, rfl, rfl, .inl ⟨_, rfl, _, 1000003, rfl, rfl, (by decide : (0 : Int) < 1000003), ?_⟩⟩⟩
    exact ⟨⟨_, _, rfl⟩, rfl, by omega⟩
  · refine .inl ⟨⟨ys, rd, by omega⟩, ?_⟩
    refine ⟨_, rfl, a, _, rfl, .inl (sql_mono hS (upd_sub hp)), fun l hl => ⟨_, rfl, by simp [sizeLine_eq], fun r hr2 => ?_⟩⟩
    have m1 := upd_sub (o := .lst ys) hp
    have m2 := upd_sub (o := HO.lst (ns.map V.int)) hl
    have n1 : H l = none := none_sub m1 hl
    have n2 : H r = none := none_sub (fun x o h => m2 x o (m1 x o h)) hr2
    have ne : l ≠ r := fun e => by
      rw [← e] at hr2
      rw [show upd (upd H p (.lst ys)) l (HO.lst (ns.map V.int)) l = some (HO.lst (ns.map V.int)) from upd_same] at hr2
      cases hr2
    refine q r l _ s n1 n2 ne upd_same ?_ fun x o h => upd_sub hr2 x o (m2 x o (m1 x o h))
    rw [upd_ne ne]
    exact upd_same
end
end PD
set_option Elab.async false
set_option linter.all false
set_option maxRecDepth 100000
set_option maxHeartbeats 4000000
namespace PD
open PySem PySem.Spec PyProof.Rows L2
section
variable {P : Program} {w : World} {K : PySem.W.Frag} {mg : Str → Option Value} {base : Heap} {pl : Option (Addr × Addr)}
abbrev N__law_same : List Str := ["actual", "due", "k"]
theorem sc__law_same : FnScope N__law_same ["actual", "due"] (defScope S__law_same) := ⟨rfl, rfl, rfl, by decide +kernel, rfl, by decide +kernel, by decide +kernel⟩
theorem ok__law_same (T : Facts K mg) : ∀ n : Nat, FnOk P w K mg base CX0 (n + 1) T.a__law_same T.d__law_same ["actual", "due"] (SpD K pl (F__law_same n)) := by
  intro n
  induction n with
  | zero => exact T.F__law_same.ok sc__law_same (len_of (len__law_same 0)) (fun cdv A outer s H vs Q E hr h => by
      obtain ⟨_, _, _, _, h, _⟩ := h
      exact h.elim)
  | succ n G__law_same =>
    have b__law_same : Binds K T.d__law_same ["actual", "due"] [] := T.F__law_same.bindsN fun _ _ _ _ _ _ us hl => match us, hl with | [_, _], _ => rfl
    refine T.F__law_same.ok sc__law_same (len_of (len__law_same (n + 1))) (fun cdv A outer s H vs Q E hr h => ⟨liftS ⟨K, pl, M__law_same⟩ (sem__law_same n), PSs.nox ?_, body_rd h (own__law_same (n + 1)) (pure__law_same n)⟩)
    have hu := hu_of hr
    have hu64 := room64 hr
    have hu65 := room65 hr
    have sc := sc__law_same
    exact (pss_consD (ps_of (ps_if (PW.pt (pw_of (pw_or (pt_of (pt_val (pe_of (pe_of (pe_callB call_isi (by rfl) T.z_isinstance (by decide +kernel) (pa_consD (pe_of (pe_of (pv 1) fun _ _ _ h => cv_varF rfl h) fun _ _ _ h => cv_fe h) (pa_consD (pe_of (pe_of (pe_bltn (v := .ty "tuple") (u := .type "tuple") (by rfl) T.z_tuple (by decide +kernel) rfl) fun _ _ _ h => cv_ty h) fun _ _ _ h => cv_wk .e h) pa_nilD))) fun _ _ _ h => cv_cb cd_isi h) fun _ _ _ h => cv_wk .e h)) fun _ _ _ h => cv_tB h) (pw_or1 (pt_of (pt_val (pe_of (pe_of (pe_callB call_isi (by rfl) T.z_isinstance (by decide +kernel) (pa_consD (pe_of (pe_of (pv 1) fun _ _ _ h => cv_varF rfl h) fun _ _ _ h => cv_fe h) (pa_consD (pe_of (pe_of (pe_bltn (v := .ty "list") (u := .type "list") (by rfl) T.z_list (by decide +kernel) rfl) fun _ _ _ h => cv_ty h) fun _ _ _ h => cv_wk .e h) pa_nilD))) fun _ _ _ h => cv_cb cd_isi h) fun _ _ _ h => cv_wk .e h)) fun _ _ _ h => cv_tB h))) fun _ _ _ h => cv_or h)) (pss_consD (ps_of (ps_if (PW.pt (pw_of (pw_or (pt_of (pt_cmpR (op_neU hu64) (pe_of (pe_of (pe_callB call_isi (by rfl) T.z_isinstance (by decide +kernel) (pa_consD (pe_of (pe_of (pv 1) fun _ _ _ h => cv_varF rfl h) fun _ _ _ h => cv_fe h) (pa_consD (pe_of (pe_of (pe_bltn (v := .ty "tuple") (u := .type "tuple") (by rfl) T.z_tuple (by decide +kernel) rfl) fun _ _ _ h => cv_ty h) fun _ _ _ h => cv_wk .e h) pa_nilD))) fun _ _ _ h => cv_cb cd_isi h) fun _ _ _ h => cv_wk .e h) (pe_of (pe_of (pe_callB call_isi (by rfl) T.z_isinstance (by decide +kernel) (pa_consD (pe_of (pe_of (pv 0) fun _ _ _ h => cv_varF rfl h) fun _ _ _ h => cv_fe h) (pa_consD (pe_of (pe_of (pe_bltn (v := .ty "tuple") (u := .type "tuple") (by rfl) T.z_tuple (by decide +kernel) rfl) fun _ _ _ h => cv_ty h) fun _ _ _ h => cv_wk .e h) pa_nilD))) fun _ _ _ h => cv_cb cd_isi h) fun _ _ _ h => cv_wk .e h) (nomark _)) fun _ _ _ h => cv_tOf (fun _ _ _ h => cv_op od_ne h) h) (pw_of (pw_or (pt_of (pt_cmpR (op_neU hu64) (pe_of (pe_of (pe_callB call_isi (by rfl) T.z_isinstance (by decide +kernel) (pa_consD (pe_of (pe_of (pv 1) fun _ _ _ h => cv_varF rfl h) fun _ _ _ h => cv_fe h) (pa_consD (pe_of (pe_of (pe_bltn (v := .ty "list") (u := .type "list") (by rfl) T.z_list (by decide +kernel) rfl) fun _ _ _ h => cv_ty h) fun _ _ _ h => cv_wk .e h) pa_nilD))) fun _ _ _ h => cv_cb cd_isi h) fun _ _ _ h => cv_wk .e h) (pe_of (pe_of (pe_callB call_isi (by rfl) T.z_isinstance (by decide +kernel) (pa_consD (pe_of (pe_of (pv 0) fun _ _ _ h => cv_varF rfl h) fun _ _ _ h => cv_fe h) (pa_consD (pe_of (pe_of (pe_bltn (v := .ty "list") (u := .type "list") (by rfl) T.z_list (by decide +kernel) rfl) fun _ _ _ h => cv_ty h) fun _ _ _ h => cv_wk .e h) pa_nilD))) fun _ _ _ h => cv_cb cd_isi h) fun _ _ _ h => cv_wk .e h) (nomark _)) fun _ _ _ h => cv_tOf (fun _ _ _ h => cv_op od_ne h) h) (pw_or1 (pt_of (pt_cmpR (op_neU hu64) (pe_of (pe_of (pe_callB call_len (by rfl) T.z_len (by decide +kernel) (pa_consD (pe_of (pe_of (pv 0) fun _ _ _ h => cv_varF rfl h) fun _ _ _ h => cv_fe h) pa_nilD)) fun _ _ _ h => cv_cb cd_len h) fun _ _ _ h => cv_wk .e h) (pe_of (pe_of (pe_callB call_len (by rfl) T.z_len (by decide +kernel) (pa_consD (pe_of (pe_of (pv 1) fun _ _ _ h => cv_varF rfl h) fun _ _ _ h => cv_fe h) pa_nilD)) fun _ _ _ h => cv_cb cd_len h) fun _ _ _ h => cv_wk .e h) (nomark _)) fun _ _ _ h => cv_tOf (fun _ _ _ h => cv_op od_ne h) h))) fun _ _ _ h => cv_or h)) fun _ _ _ h => cv_or h)) (pss_oneD (ps_of (ps_ret (pe_of pe_bl fun _ _ _ h => cv_bl h)) fun _ _ _ h => cvs_ret h)) pss_nilD) fun _ _ _ h => cvs_if h) (pss_oneD (ps_of (ps_ret (pe_of (pe_cmpR (op_eqU hu64) (pe_of (pe_of (pe_callB call_len (by rfl) T.z_len (by decide +kernel) (pa_consD (pe_of (pe_of (pe_lc (own := [("k", 2)]) rfl sc.nd (pi_of (pi_range1 rfl T.z_range (pa_consD (pe_of (pe_of (pe_callB call_len (by rfl) T.z_len (by decide +kernel) (pa_consD (pe_of (pe_of (pv 1) fun _ _ _ h => cv_varF rfl h) fun _ _ _ h => cv_fe h) pa_nilD)) fun _ _ _ h => cv_cb cd_len h) fun _ _ _ h => cv_wk .e h) pa_nilD)) fun _ _ _ h => cv_rng1 h) (blkOk_by (own := [("k", 2)]) (N := N__law_same) (sc := defScope S__law_same) (by decide +kernel)) (fun _ _ _ _ _ => (pg_of (pg_name (i := 2) sc.nd rfl (by first | exact Or.inl rfl | exact Or.inr rfl)) fun _ _ _ _ h => cv_gname rfl (by decide) h)) (fun _ _ _ _ _ => (pts_one (pt_of (pt_not (pt_of (pt_val (pe_of (pe_of (pe_call G__law_same (hr.mono (Nat.le_refl _)) (by rfl) T.g__law_same T.F__law_same.kp b__law_same .nil pass0 (pa_consD (pe_of (pe_of (pe_ix ix_seq (pe_of (pv 0) fun _ _ _ h => cv_varF rfl h) (pe_of (pe_of (pv 2) fun _ _ _ h => cv_varF rfl h) fun _ _ _ h => cv_fe h) (fun _ _ => rfl)) fun _ _ _ h => cv_ix h) fun _ _ _ h => cv_fe h) (pa_consD (pe_of (pe_of (pe_ix ix_seq (pe_of (pv 1) fun _ _ _ h => cv_varF rfl h) (pe_of (pe_of (pv 2) fun _ _ _ h => cv_varF rfl h) fun _ _ _ h => cv_fe h) (fun _ _ => rfl)) fun _ _ _ h => cv_ix h) fun _ _ _ h => cv_fe h) pa_nilD))) fun _ _ _ h => cv_call h) fun _ _ _ h => cv_wk .e h)) fun _ _ _ h => cv_tB h)) fun _ _ _ h => cv_not h))) (fun _ _ _ _ _ => (pe_of (pe_of (pe_of (pv 2) fun _ _ _ h => cv_varF rfl h) fun _ _ _ h => cv_fe h) fun _ _ _ h => cv_imm h))) fun _ _ _ h => cv_lc .f h) fun _ _ _ h => cv_wk .e h) pa_nilD)) fun _ _ _ h => cv_cb cd_len h) fun _ _ _ h => cv_wk .e h) (pe_of (pe_of pe_int fun _ _ _ h => cv_int h) fun _ _ _ h => cv_wk .e h) (nomark _)) fun _ _ _ h => cv_op od_eq h)) fun _ _ _ h => cvs_ret h))) pss_nilD) fun _ _ _ h => cvs_if h) (pss_consD (ps_of (ps_if (pt_of (pt_cmpR op_isN (pe_of (pe_of (pv 1) fun _ _ _ h => cv_varF rfl h) fun _ _ _ h => cv_fe h) (pe_of (pe_of pe_non fun _ _ _ h => cv_non h) fun _ _ _ h => cv_wk .e h) (nomark _)) fun _ _ _ h => cv_tOf (fun _ _ _ h => cv_op od_isN h) h) (pss_oneD (ps_of (ps_ret (pe_of (pe_cmpR op_isN (pe_of (pe_of (pv 0) fun _ _ _ h => cv_varF rfl h) fun _ _ _ h => cv_fe h) (pe_of (pe_of pe_non fun _ _ _ h => cv_non h) fun _ _ _ h => cv_wk .e h) (nomark _)) fun _ _ _ h => cv_op od_isN h)) fun _ _ _ h => cvs_ret h)) pss_nilD) fun _ _ _ h => cvs_if h) (pss_consD (ps_of (ps_if (PW.pt (pw_of (pw_or (pt_of (pt_val (pe_of (pe_of (pe_callB call_isi (by rfl) T.z_isinstance (by decide +kernel) (pa_consD (pe_of (pe_of (pv 1) fun _ _ _ h => cv_varF rfl h) fun _ _ _ h => cv_fe h) (pa_consD (pe_of (pe_of (pe_bltn (v := .ty "bool") (u := .type "bool") (by rfl) T.z_bool (by decide +kernel) rfl) fun _ _ _ h => cv_ty h) fun _ _ _ h => cv_wk .e h) pa_nilD))) fun _ _ _ h => cv_cb cd_isi h) fun _ _ _ h => cv_wk .e h)) fun _ _ _ h => cv_tB h) (pw_or1 (pt_of (pt_val (pe_of (pe_of (pe_callB call_isi (by rfl) T.z_isinstance (by decide +kernel) (pa_consD (pe_of (pe_of (pv 0) fun _ _ _ h => cv_varF rfl h) fun _ _ _ h => cv_fe h) (pa_consD (pe_of (pe_of (pe_bltn (v := .ty "bool") (u := .type "bool") (by rfl) T.z_bool (by decide +kernel) rfl) fun _ _ _ h => cv_ty h) fun _ _ _ h => cv_wk .e h) pa_nilD))) fun _ _ _ h => cv_cb cd_isi h) fun _ _ _ h => cv_wk .e h)) fun _ _ _ h => cv_tB h))) fun _ _ _ h => cv_or h)) (pss_oneD (ps_of (ps_ret (pe_of (pe_and (pe_of (pe_of (pe_callB call_isi (by rfl) T.z_isinstance (by decide +kernel) (pa_consD (pe_of (pe_of (pv 1) fun _ _ _ h => cv_varF rfl h) fun _ _ _ h => cv_fe h) (pa_consD (pe_of (pe_of (pe_bltn (v := .ty "bool") (u := .type "bool") (by rfl) T.z_bool (by decide +kernel) rfl) fun _ _ _ h => cv_ty h) fun _ _ _ h => cv_wk .e h) pa_nilD))) fun _ _ _ h => cv_cb cd_isi h) fun _ _ _ h => cv_wk .e h) (pe_of (pe_and (pe_of (pe_of (pe_callB call_isi (by rfl) T.z_isinstance (by decide +kernel) (pa_consD (pe_of (pe_of (pv 0) fun _ _ _ h => cv_varF rfl h) fun _ _ _ h => cv_fe h) (pa_consD (pe_of (pe_of (pe_bltn (v := .ty "bool") (u := .type "bool") (by rfl) T.z_bool (by decide +kernel) rfl) fun _ _ _ h => cv_ty h) fun _ _ _ h => cv_wk .e h) pa_nilD))) fun _ _ _ h => cv_cb cd_isi h) fun _ _ _ h => cv_wk .e h) (pe_one (pe_of (pe_cmpR (op_eqU hu64) (pe_of (pe_of (pv 0) fun _ _ _ h => cv_varF rfl h) fun _ _ _ h => cv_fe h) (pe_of (pe_of (pv 1) fun _ _ _ h => cv_varF rfl h) fun _ _ _ h => cv_fe h) (nomark _)) fun _ _ _ h => cv_op od_eq h))) fun _ _ _ h => cv_andV h)) fun _ _ _ h => cv_andV h)) fun _ _ _ h => cvs_ret h)) pss_nilD) fun _ _ _ h => cvs_if h) (pss_consD (ps_of (ps_if (pt_of (pt_val (pe_of (pe_of (pe_callB call_isi (by rfl) T.z_isinstance (by decide +kernel) (pa_consD (pe_of (pe_of (pv 1) fun _ _ _ h => cv_varF rfl h) fun _ _ _ h => cv_fe h) (pa_consD (pe_of (pe_of (pe_bltn (v := .ty "int") (u := .type "int") (by rfl) T.z_int (by decide +kernel) rfl) fun _ _ _ h => cv_ty h) fun _ _ _ h => cv_wk .e h) pa_nilD))) fun _ _ _ h => cv_cb cd_isi h) fun _ _ _ h => cv_wk .e h)) fun _ _ _ h => cv_tB h) (pss_oneD (ps_of (ps_ret (pe_of (pe_and (pe_of (pe_of (pe_callB call_isi (by rfl) T.z_isinstance (by decide +kernel) (pa_consD (pe_of (pe_of (pv 0) fun _ _ _ h => cv_varF rfl h) fun _ _ _ h => cv_fe h) (pa_consD (pe_of (pe_of (pe_bltn (v := .ty "int") (u := .type "int") (by rfl) T.z_int (by decide +kernel) rfl) fun _ _ _ h => cv_ty h) fun _ _ _ h => cv_wk .e h) pa_nilD))) fun _ _ _ h => cv_cb cd_isi h) fun _ _ _ h => cv_wk .e h) (pe_one (pe_of (pe_cmpR (op_eqU hu64) (pe_of (pe_of (pv 0) fun _ _ _ h => cv_varF rfl h) fun _ _ _ h => cv_fe h) (pe_of (pe_of (pv 1) fun _ _ _ h => cv_varF rfl h) fun _ _ _ h => cv_fe h) (nomark _)) fun _ _ _ h => cv_op od_eq h))) fun _ _ _ h => cv_andV h)) fun _ _ _ h => cvs_ret h)) pss_nilD) fun _ _ _ h => cvs_if h) (pss_oneD (ps_of (ps_ret (pe_of (pe_and (pe_of (pe_of (pe_callB call_isi (by rfl) T.z_isinstance (by decide +kernel) (pa_consD (pe_of (pe_of (pv 0) fun _ _ _ h => cv_varF rfl h) fun _ _ _ h => cv_fe h) (pa_consD (pe_of (pe_of (pe_bltn (v := .ty "str") (u := .type "str") (by rfl) T.z_str (by decide +kernel) rfl) fun _ _ _ h => cv_ty h) fun _ _ _ h => cv_wk .e h) pa_nilD))) fun _ _ _ h => cv_cb cd_isi h) fun _ _ _ h => cv_wk .e h) (pe_of (pe_and (pe_of (pe_of (pe_callB call_isi (by rfl) T.z_isinstance (by decide +kernel) (pa_consD (pe_of (pe_of (pv 1) fun _ _ _ h => cv_varF rfl h) fun _ _ _ h => cv_fe h) (pa_consD (pe_of (pe_of (pe_bltn (v := .ty "str") (u := .type "str") (by rfl) T.z_str (by decide +kernel) rfl) fun _ _ _ h => cv_ty h) fun _ _ _ h => cv_wk .e h) pa_nilD))) fun _ _ _ h => cv_cb cd_isi h) fun _ _ _ h => cv_wk .e h) (pe_one (pe_of (pe_cmpR (op_eqU hu64) (pe_of (pe_of (pv 0) fun _ _ _ h => cv_varF rfl h) fun _ _ _ h => cv_fe h) (pe_of (pe_of (pv 1) fun _ _ _ h => cv_varF rfl h) fun _ _ _ h => cv_fe h) (nomark _)) fun _ _ _ h => cv_op od_eq h))) fun _ _ _ h => cv_andV h)) fun _ _ _ h => cv_andV h)) fun _ _ _ h => cvs_ret h))))))
abbrev N_law : List Str := ["script", "pool", "turn", "words", "back", "reader", "most", "due", "told", "row", "one", "two", "length", "some", "k"]
theorem sc_law : FnScope N_law ["script"] (defScope S_law) := ⟨rfl, rfl, rfl, by decide +kernel, rfl, by decide +kernel, by decide +kernel⟩
def M_law_k38 : Nat → Bool := fun i => ([] : List Nat).contains i
def spLaw (K : PySem.W.Frag) : Sp := fun vs H Q _ => ∃ (a : Addr) (ns : List Int), vs = [.ref a] ∧ SqL K H a (ns.map V.int) ∧ ∀ H', Q (.bl true) H'
theorem ok_law (T : Facts K mg) : FnOk P w K mg base CX0 6 T.a_law T.d_law ["script"] (spLaw K) := by
  refine T.F_law.ok sc_law (fun vs H Q E h => by obtain ⟨_, _, rfl, _⟩ := h; rfl) (fun cdv A outer s H vs Q E hr h => ?_)
  have hu := hu_of hr
  have hu64 := room64 hr
  have hu65 := room65 hr
  have sc := sc_law
  have G__law_pool := ok__law_pool (P := P) (w := w) (base := base) T
  have b__law_pool : Binds K T.d__law_pool ["script"] [] := T.F__law_pool.bindsN fun _ _ _ _ _ _ us hl => match us, hl with | [_], _ => rfl
  have tail_ok : ∀ pl : Option (Addr × Addr), PSs (cxOf CX0 P w K mg base N_law "law" (defScope S_law) T.a_law cdv A outer s H E).nox (defBody S_law).tail (liftS ⟨K, pl, M_law_k38⟩ sem_law_rest) := fun pl => by
    have G__law_code := ok__law_code (P := P) (w := w) (base := base) (pl := pl) T
    have b__law_code : Binds K T.d__law_code ["pool"] [] := T.F__law_code.bindsN fun _ _ _ _ _ _ us hl => match us, hl with | [_], _ => rfl
    have G_exchanged := ok_exchanged (P := P) (w := w) (base := base) (pl := pl) T
    have b_exchanged : Binds K T.d_exchanged ["machine"] [] := T.F_exchanged.bindsN fun _ _ _ _ _ _ us hl => match us, hl with | [_], _ => rfl
    have G_coder := ok_coder (P := P) (w := w) (base := base) (pl := pl) T
    have b_coder : Binds K T.d_coder ["words"] [] := T.F_coder.bindsN fun _ _ _ _ _ _ us hl => match us, hl with | [_], _ => rfl
    have G_reading := ok_reading (P := P) (w := w) (base := base) (pl := pl) T
    have b_reading : Binds K T.d_reading ["machine"] [] := T.F_reading.bindsN fun _ _ _ _ _ _ us hl => match us, hl with | [_], _ => rfl
    have G__law_rows_of := ok__law_rows_of (P := P) (w := w) (base := base) (pl := pl) T
    have b__law_rows_of : Binds K T.d__law_rows_of ["words", "most"] [] := T.F__law_rows_of.bindsN fun _ _ _ _ _ _ us hl => match us, hl with | [_, _], _ => rfl
    have G_count := ok_count (P := P) (w := w) (base := base) (pl := pl) T
    have b_count : Binds K T.d_count ["reader", "many"] [] := T.F_count.bindsN fun _ _ _ _ _ _ us hl => match us, hl with | [_, _], _ => rfl
    have G_rests := ok_rests (P := P) (w := w) (base := base) (pl := pl) T
    have b_rests : Binds K T.d_rests ["words"] [] := T.F_rests.bindsN fun _ _ _ _ _ _ us hl => match us, hl with | [_], _ => rfl
    have G__law_draw := ok__law_draw (P := P) (w := w) (base := base) (pl := pl) T
    have b__law_draw : Binds K T.d__law_draw ["pool", "many"] [] := T.F__law_draw.bindsN fun _ _ _ _ _ _ us hl => match us, hl with | [_, _], _ => rfl
    have G__law_same := ok__law_same (P := P) (w := w) (base := base) (pl := pl) T 3
    have b__law_same : Binds K T.d__law_same ["actual", "due"] [] := T.F__law_same.bindsN fun _ _ _ _ _ _ us hl => match us, hl with | [_, _], _ => rfl
    have G_outputs := ok_outputs (P := P) (w := w) (base := base) (pl := pl) T
    have b_outputs : Binds K T.d_outputs ["machine", "word", "most"] [] := T.F_outputs.bindsN fun _ _ _ _ _ _ us hl => match us, hl with | [_, _, _], _ => rfl
    have G_spelled := ok_spelled (P := P) (w := w) (base := base) (pl := pl) T
    have b_spelled : Binds K T.d_spelled ["words", "row"] [] := T.F_spelled.bindsN fun _ _ _ _ _ _ us hl => match us, hl with | [_, _], _ => rfl
    have G_two_rows := ok_two_rows (P := P) (w := w) (base := base) (pl := pl) T
    have b_two_rows : Binds K T.d_two_rows ["words"] [] := T.F_two_rows.bindsN fun _ _ _ _ _ _ us hl => match us, hl with | [_], _ => rfl
    unfold sem_law_rest S_turn S_code S_two S_fin
    exact (pss_consD (ps_of (ps_for PassesOwn.never rfl (pi_of (pi_range1 rfl T.z_range (pa_consD (pe_of (pe_of pe_int fun _ _ _ h => cv_int h) fun _ _ _ h => cv_wk .e h) pa_nilD)) fun _ _ _ h => cv_rng1 h) (pg_of (pg_name (i := 2) sc.nd rfl (by first | exact Or.inl rfl | exact Or.inr rfl)) fun _ _ _ _ h => cv_gname rfl trivial h) (pss_consD (ps_of (ps_set (i := 3) sc.nd rfl (by first | exact Or.inl rfl | exact Or.inr rfl) (pe_of (pe_of (pe_slice sl_any (show PE _ _ (lift ⟨K, pl, M_law_k38⟩ .n (dCall F__law_code_k38 (dCons (dVar 1) dNil))) from (pe_of (pe_call G__law_code (hr.mono (by decide)) (by rfl) T.g__law_code T.F__law_code.kp b__law_code .nil pass0 (pa_consD (pe_of (pe_of (pv 1) fun _ _ _ h => cv_varF rfl h) fun _ _ _ h => cv_fe h) pa_nilD)) fun _ _ _ h => cv_call h)) (po_of po_none fun _ _ _ h => cv_noPart h) (po_of (po_some (pe_of (pe_of pe_int fun _ _ _ h => cv_int h) fun _ _ _ h => cv_wk .e h)) fun _ _ _ h => cv_part h)) fun _ _ _ h => cv_sl h) fun _ _ _ h => cv_wk .f h)) fun _ _ _ h => cvs_set rfl h) (pss_consD (ps_of (ps_set (i := 4) sc.nd rfl (by first | exact Or.inl rfl | exact Or.inr rfl) (pe_of (pe_of (pe_call G_exchanged (hr.mono (by decide)) (by rfl) T.g_exchanged T.F_exchanged.kp b_exchanged .nil pass0 (pa_consD (pe_of (pe_of (pe_call G_coder (hr.mono (by decide)) (by rfl) T.g_coder T.F_coder.kp b_coder .nil pass0 (pa_consD (pe_of (pe_of (pv 3) fun _ _ _ h => cv_varF rfl h) fun _ _ _ h => cv_fe h) pa_nilD)) fun _ _ _ h => cv_call h) fun _ _ _ h => cv_wk .e h) pa_nilD)) fun _ _ _ h => cv_call h) fun _ _ _ h => cv_wk .f h)) fun _ _ _ h => cvs_set rfl h) (pss_consD (ps_of (ps_set (i := 5) sc.nd rfl (by first | exact Or.inl rfl | exact Or.inr rfl) (pe_of (pe_of (pe_call G_reading (hr.mono (by decide)) (by rfl) T.g_reading T.F_reading.kp b_reading .nil pass0 (pa_consD (pe_of (pe_of (pv 4) fun _ _ _ h => cv_varF rfl h) fun _ _ _ h => cv_fe h) pa_nilD)) fun _ _ _ h => cv_call h) fun _ _ _ h => cv_wk .f h)) fun _ _ _ h => cvs_set rfl h) (pss_consD (ps_of (ps_set (i := 6) sc.nd rfl (by first | exact Or.inl rfl | exact Or.inr rfl) (pe_of (pe_of pe_int fun _ _ _ h => cv_int h) fun _ _ _ h => cv_wk .f h)) fun _ _ _ h => cvs_set rfl h) (pss_consD (ps_of (ps_set (i := 7) sc.nd rfl (by first | exact Or.inl rfl | exact Or.inr rfl) (pe_of (pe_of (pe_call G__law_rows_of (hr.mono (by decide)) (by rfl) T.g__law_rows_of T.F__law_rows_of.kp b__law_rows_of .nil pass0 (pa_consD (pe_of (pe_of (pv 3) fun _ _ _ h => cv_varF rfl h) fun _ _ _ h => cv_fe h) (pa_consD (pe_of (pe_of (pv 6) fun _ _ _ h => cv_varF rfl h) fun _ _ _ h => cv_fe h) pa_nilD))) fun _ _ _ h => cv_call h) fun _ _ _ h => cv_wk .f h)) fun _ _ _ h => cvs_set rfl h) (pss_consD (ps_of (ps_set (i := 8) sc.nd rfl (by first | exact Or.inl rfl | exact Or.inr rfl) (pe_of (pe_of (pe_lc (own := [("length", 12)]) rfl sc.nd (pi_of (pi_range1 rfl T.z_range (pa_consD (pe_of (pe_of (pe_op op_addU (pe_of (pe_of (pv 6) fun _ _ _ h => cv_varF rfl h) fun _ _ _ h => cv_fe h) (pe_of (pe_of pe_int fun _ _ _ h => cv_int h) fun _ _ _ h => cv_wk .e h)) fun _ _ _ h => cv_op od_add h) fun _ _ _ h => cv_wk .e h) pa_nilD)) fun _ _ _ h => cv_rng1 h) (blkOk_by (own := [("length", 12)]) (N := N_law) (sc := defScope S_law) (by decide +kernel)) (fun _ _ _ _ _ => (pg_of (pg_name (i := 12) sc.nd rfl (by first | exact Or.inl rfl | exact Or.inr rfl)) fun _ _ _ _ h => cv_gname rfl (by decide) h)) (fun _ _ _ _ _ => (pts_of pts_nil fun _ _ _ h => cv_yes h)) (fun _ _ _ _ _ => (pe_of (pe_call G_count (hr.mono (by decide)) (by rfl) T.g_count T.F_count.kp b_count .nil pass0 (pa_consD (pe_of (pe_of (pv 5) fun _ _ _ h => cv_varF rfl h) fun _ _ _ h => cv_fe h) (pa_consD (pe_of (pe_of (pv 12) fun _ _ _ h => cv_varF rfl h) fun _ _ _ h => cv_fe h) pa_nilD))) fun _ _ _ h => cv_call h))) fun _ _ _ h => cv_lc .f h) fun _ _ _ h => cv_wk .f h)) fun _ _ _ h => cvs_set rfl h) (pss_consD (ps_of (ps_if (pt_of (pt_cmpR op_notN (pe_of (pe_of (pe_call G_rests (hr.mono (by decide)) (by rfl) T.g_rests T.F_rests.kp b_rests .nil pass0 (pa_consD (pe_of (pe_of (pv 3) fun _ _ _ h => cv_varF rfl h) fun _ _ _ h => cv_fe h) pa_nilD)) fun _ _ _ h => cv_call h) fun _ _ _ h => cv_wk .e h) (pe_of (pe_of pe_non fun _ _ _ h => cv_non h) fun _ _ _ h => cv_wk .e h) (nomark _)) fun _ _ _ h => cv_tOf (fun _ _ _ h => cv_op od_notN h) h) (pss_consD (ps_of (ps_set (i := 9) sc.nd rfl (by first | exact Or.inl rfl | exact Or.inr rfl) (pe_of (pe_of (pe_callTy call_tuple_of (by rfl) T.z_tuple (by decide +kernel) (pa_consD (pe_of (pe_of (pe_lc (own := [("k", 14)]) rfl sc.nd (pi_of (pi_range1 rfl T.z_range (pa_consD (pe_of (pe_of (pe_call G__law_draw (hr.mono (by decide)) (by rfl) T.g__law_draw T.F__law_draw.kp b__law_draw .nil pass0 (pa_consD (pe_of (pe_of (pv 1) fun _ _ _ h => cv_varF rfl h) fun _ _ _ h => cv_fe h) (pa_consD (pe_of (pe_of pe_int fun _ _ _ h => cv_int h) fun _ _ _ h => cv_wk .e h) pa_nilD))) fun _ _ _ h => cv_call h) fun _ _ _ h => cv_wk .e h) pa_nilD)) fun _ _ _ h => cv_rng1 h) (blkOk_by (own := [("k", 14)]) (N := N_law) (sc := defScope S_law) (by decide +kernel)) (fun _ _ _ _ _ => (pg_of (pg_name (i := 14) sc.nd rfl (by first | exact Or.inl rfl | exact Or.inr rfl)) fun _ _ _ _ h => cv_gname rfl (by decide) h)) (fun _ _ _ _ _ => (pts_of pts_nil fun _ _ _ h => cv_yes h)) (fun _ _ _ _ _ => (pe_of (pe_call G__law_draw (hr.mono (by decide)) (by rfl) T.g__law_draw T.F__law_draw.kp b__law_draw .nil pass0 (pa_consD (pe_of (pe_of (pv 1) fun _ _ _ h => cv_varF rfl h) fun _ _ _ h => cv_fe h) (pa_consD (pe_of (pe_of (pe_callB call_len (by rfl) T.z_len (by decide +kernel) (pa_consD (pe_of (pe_of (pv 3) fun _ _ _ h => cv_varF rfl h) fun _ _ _ h => cv_fe h) pa_nilD)) fun _ _ _ h => cv_cb cd_len h) fun _ _ _ h => cv_wk .e h) pa_nilD))) fun _ _ _ h => cv_call h))) fun _ _ _ h => cv_lc .f h) fun _ _ _ h => cv_wk .e h) pa_nilD)) fun _ _ _ h => cv_cb cd_tuple h) fun _ _ _ h => cv_wk .f h)) fun _ _ _ h => cvs_set rfl h) (pss_oneD (ps_of (ps_if (PW.pt (pw_of (pw_or (pt_of (pt_not (pt_of (pt_val (pe_of (pe_of (pe_call G__law_same (hr.mono (by decide)) (by rfl) T.g__law_same T.F__law_same.kp b__law_same .nil pass0 (pa_consD (pe_of (pe_of (pe_call G_outputs (hr.mono (by decide)) (by rfl) T.g_outputs T.F_outputs.kp b_outputs .nil pass0 (pa_consD (pe_of (pe_of (pv 4) fun _ _ _ h => cv_varF rfl h) fun _ _ _ h => cv_fe h) (pa_consD (pe_of (pe_of (pe_call G_spelled (hr.mono (by decide)) (by rfl) T.g_spelled T.F_spelled.kp b_spelled .nil pass0 (pa_consD (pe_of (pe_of (pv 3) fun _ _ _ h => cv_varF rfl h) fun _ _ _ h => cv_fe h) (pa_consD (pe_of (pe_of (pv 9) fun _ _ _ h => cv_varF rfl h) fun _ _ _ h => cv_fe h) pa_nilD))) fun _ _ _ h => cv_call h) fun _ _ _ h => cv_wk .e h) (pa_consD (pe_of (pe_of (pe_op op_addU (pe_of (pe_of (pe_callB call_len (by rfl) T.z_len (by decide +kernel) (pa_consD (pe_of (pe_of (pv 9) fun _ _ _ h => cv_varF rfl h) fun _ _ _ h => cv_fe h) pa_nilD)) fun _ _ _ h => cv_cb cd_len h) fun _ _ _ h => cv_wk .e h) (pe_of (pe_of pe_int fun _ _ _ h => cv_int h) fun _ _ _ h => cv_wk .e h)) fun _ _ _ h => cv_op od_add h) fun _ _ _ h => cv_wk .e h) pa_nilD)))) fun _ _ _ h => cv_call h) fun _ _ _ h => cv_wk .e h) (pa_consD (pe_of (pe_of (pe_lst (pa_consD (pe_of (pe_join (pe_of (pe_of pe_str fun _ _ _ h => cv_str [] (by decide +kernel) h) fun _ _ _ h => cv_wk .e h) (pe_of (pe_of (pe_lc (own := [("k", 14)]) rfl sc.nd (pi_of (pi_any (pe_of (pv 9) fun _ _ _ h => cv_varF rfl h)) fun _ _ _ h => cv_it h) (blkOk_by (own := [("k", 14)]) (N := N_law) (sc := defScope S_law) (by decide +kernel)) (fun _ _ _ _ _ => (pg_of (pg_name (i := 14) sc.nd rfl (by first | exact Or.inl rfl | exact Or.inr rfl)) fun _ _ _ _ h => cv_gname rfl (by decide) h)) (fun _ _ _ _ _ => (pts_of pts_nil fun _ _ _ h => cv_yes h)) (fun _ _ _ _ _ => (pe_of (pe_ix ix_seq (show PE _ _ (lift ⟨K, pl, M_law_k38⟩ .n (dC (.str [97, 98, 99]))) from (pe_of pe_str fun _ _ _ h => cv_str [97, 98, 99] (by decide +kernel) h)) (pe_of (pe_of (pv 14) fun _ _ _ h => cv_varF rfl h) fun _ _ _ h => cv_fe h) (fun _ _ => rfl)) fun _ _ _ h => cv_ix h))) fun _ _ _ h => cv_lc .f h) fun _ _ _ h => cv_wk .e h)) fun _ _ _ h => cv_m1 md_join h) pa_nilD)) fun _ _ _ h => cv_lst h) fun _ _ _ h => cv_wk .e h) pa_nilD))) fun _ _ _ h => cv_call h) fun _ _ _ h => cv_wk .e h)) fun _ _ _ h => cv_tB h)) fun _ _ _ h => cv_not h) (pw_or1 (pt_of (pt_cmpR (op_neU hu64) (pe_of (pe_of (pv 8) fun _ _ _ h => cv_varF rfl h) fun _ _ _ h => cv_fe h) (pe_of (pe_of (pv 7) fun _ _ _ h => cv_varF rfl h) fun _ _ _ h => cv_fe h) (nomark _)) fun _ _ _ h => cv_tOf (fun _ _ _ h => cv_op od_ne h) h))) fun _ _ _ h => cv_or h)) (pss_oneD (ps_of (ps_ret (pe_of pe_bl fun _ _ _ h => cv_bl h)) fun _ _ _ h => cvs_ret h)) pss_nilD) fun _ _ _ h => cvs_if h))) (pss_consD (ps_of (ps_asg (pe_of (pe_of (pe_call G_two_rows (hr.mono (by decide)) (by rfl) T.g_two_rows T.F_two_rows.kp b_two_rows .nil pass0 (pa_consD (pe_of (pe_of (pv 3) fun _ _ _ h => cv_varF rfl h) fun _ _ _ h => cv_fe h) pa_nilD)) fun _ _ _ h => cv_call h) fun _ _ _ h => cv_wk .f h) (pg_of (pg_tup rfl (pgs_of (pgs_cons (pg_of (pg_name (i := 10) sc.nd rfl (by first | exact Or.inl rfl | exact Or.inr rfl)) fun _ _ _ _ h => cv_gname rfl trivial h) (pgs_of (pgs_cons (pg_of (pg_name (i := 11) sc.nd rfl (by first | exact Or.inl rfl | exact Or.inr rfl)) fun _ _ _ _ h => cv_gname rfl trivial h) (pgs_of pgs_nil fun _ _ _ _ h => cv_gnil h)) fun _ _ _ _ h => cv_gcons h)) fun _ _ _ _ h => cv_gcons h)) fun _ _ _ _ h => cv_gtup h)) fun _ _ _ h => cvs_asg (V := fun _ => True) h) (pss_consD (ps_of (ps_set (i := 12) sc.nd rfl (by first | exact Or.inl rfl | exact Or.inr rfl) (pe_of (pe_of (pe_callB call_len (by rfl) T.z_len (by decide +kernel) (pa_consD (pe_of (pe_of (pe_call G_spelled (hr.mono (by decide)) (by rfl) T.g_spelled T.F_spelled.kp b_spelled .nil pass0 (pa_consD (pe_of (pe_of (pv 3) fun _ _ _ h => cv_varF rfl h) fun _ _ _ h => cv_fe h) (pa_consD (pe_of (pe_of (pv 10) fun _ _ _ h => cv_varF rfl h) fun _ _ _ h => cv_fe h) pa_nilD))) fun _ _ _ h => cv_call h) fun _ _ _ h => cv_wk .e h) pa_nilD)) fun _ _ _ h => cv_cb cd_len h) fun _ _ _ h => cv_wk .f h)) fun _ _ _ h => cvs_set rfl h) (pss_consD (ps_of (ps_set (i := 13) sc.nd rfl (by first | exact Or.inl rfl | exact Or.inr rfl) (pe_of (pe_of (pe_call G_outputs (hr.mono (by decide)) (by rfl) T.g_outputs T.F_outputs.kp b_outputs .nil pass0 (pa_consD (pe_of (pe_of (pv 4) fun _ _ _ h => cv_varF rfl h) fun _ _ _ h => cv_fe h) (pa_consD (pe_of (pe_of (pe_call G_spelled (hr.mono (by decide)) (by rfl) T.g_spelled T.F_spelled.kp b_spelled .nil pass0 (pa_consD (pe_of (pe_of (pv 3) fun _ _ _ h => cv_varF rfl h) fun _ _ _ h => cv_fe h) (pa_consD (pe_of (pe_of (pv 10) fun _ _ _ h => cv_varF rfl h) fun _ _ _ h => cv_fe h) pa_nilD))) fun _ _ _ h => cv_call h) fun _ _ _ h => cv_wk .e h) (pa_consD (pe_of (pe_of (pe_op op_addU (pe_of (pe_of (pe_callB call_len (by rfl) T.z_len (by decide +kernel) (pa_consD (pe_of (pe_of (pv 10) fun _ _ _ h => cv_varF rfl h) fun _ _ _ h => cv_fe h) pa_nilD)) fun _ _ _ h => cv_cb cd_len h) fun _ _ _ h => cv_wk .e h) (pe_of (pe_of (pe_callB call_len (by rfl) T.z_len (by decide +kernel) (pa_consD (pe_of (pe_of (pv 11) fun _ _ _ h => cv_varF rfl h) fun _ _ _ h => cv_fe h) pa_nilD)) fun _ _ _ h => cv_cb cd_len h) fun _ _ _ h => cv_wk .e h)) fun _ _ _ h => cv_op od_add h) fun _ _ _ h => cv_wk .e h) pa_nilD)))) fun _ _ _ h => cv_call h) fun _ _ _ h => cv_wk .f h)) fun _ _ _ h => cvs_set rfl h) (pss_consD (ps_of (ps_if (PW.pt (pw_of (pw_or (pt_of (pt_cmpR (op_notInU hu65) (pe_of (pe_of (pe_join (pe_of (pe_of pe_str fun _ _ _ h => cv_str [] (by decide +kernel) h) fun _ _ _ h => cv_wk .e h) (pe_of (pe_of (pe_lc (own := [("k", 14)]) rfl sc.nd (pi_of (pi_any (pe_of (pv 10) fun _ _ _ h => cv_varF rfl h)) fun _ _ _ h => cv_it h) (blkOk_by (own := [("k", 14)]) (N := N_law) (sc := defScope S_law) (by decide +kernel)) (fun _ _ _ _ _ => (pg_of (pg_name (i := 14) sc.nd rfl (by first | exact Or.inl rfl | exact Or.inr rfl)) fun _ _ _ _ h => cv_gname rfl (by decide) h)) (fun _ _ _ _ _ => (pts_of pts_nil fun _ _ _ h => cv_yes h)) (fun _ _ _ _ _ => (pe_of (pe_ix ix_seq (show PE _ _ (lift ⟨K, pl, M_law_k38⟩ .n (dC (.str [97, 98, 99]))) from (pe_of pe_str fun _ _ _ h => cv_str [97, 98, 99] (by decide +kernel) h)) (pe_of (pe_of (pv 14) fun _ _ _ h => cv_varF rfl h) fun _ _ _ h => cv_fe h) (fun _ _ => rfl)) fun _ _ _ h => cv_ix h))) fun _ _ _ h => cv_lc .f h) fun _ _ _ h => cv_wk .e h)) fun _ _ _ h => cv_m1 md_join h) fun _ _ _ h => cv_wk .e h) (pe_of (pe_of (pv 13) fun _ _ _ h => cv_varF rfl h) fun _ _ _ h => cv_fe h) (by rfl)) fun _ _ _ h => cv_tOf (fun _ _ _ h => cv_op od_notIn h) h) (pw_of (pw_or (pt_of (pt_cmpR (op_notInU hu65) (pe_of (pe_of (pe_join (pe_of (pe_of pe_str fun _ _ _ h => cv_str [] (by decide +kernel) h) fun _ _ _ h => cv_wk .e h) (pe_of (pe_of (pe_lc (own := [("k", 14)]) rfl sc.nd (pi_of (pi_any (pe_of (pv 11) fun _ _ _ h => cv_varF rfl h)) fun _ _ _ h => cv_it h) (blkOk_by (own := [("k", 14)]) (N := N_law) (sc := defScope S_law) (by decide +kernel)) (fun _ _ _ _ _ => (pg_of (pg_name (i := 14) sc.nd rfl (by first | exact Or.inl rfl | exact Or.inr rfl)) fun _ _ _ _ h => cv_gname rfl (by decide) h)) (fun _ _ _ _ _ => (pts_of pts_nil fun _ _ _ h => cv_yes h)) (fun _ _ _ _ _ => (pe_of (pe_ix ix_seq (show PE _ _ (lift ⟨K, pl, M_law_k38⟩ .n (dC (.str [97, 98, 99]))) from (pe_of pe_str fun _ _ _ h => cv_str [97, 98, 99] (by decide +kernel) h)) (pe_of (pe_of (pv 14) fun _ _ _ h => cv_varF rfl h) fun _ _ _ h => cv_fe h) (fun _ _ => rfl)) fun _ _ _ h => cv_ix h))) fun _ _ _ h => cv_lc .f h) fun _ _ _ h => cv_wk .e h)) fun _ _ _ h => cv_m1 md_join h) fun _ _ _ h => cv_wk .e h) (pe_of (pe_of (pv 13) fun _ _ _ h => cv_varF rfl h) fun _ _ _ h => cv_fe h) (by rfl)) fun _ _ _ h => cv_tOf (fun _ _ _ h => cv_op od_notIn h) h) (pw_or1 (pt_of (pt_cmpR op_lt (pe_of (pe_of (pe_callB call_len (by rfl) T.z_len (by decide +kernel) (pa_consD (pe_of (pe_of (pv 13) fun _ _ _ h => cv_varF rfl h) fun _ _ _ h => cv_fe h) pa_nilD)) fun _ _ _ h => cv_cb cd_len h) fun _ _ _ h => cv_wk .e h) (pe_of (pe_of pe_int fun _ _ _ h => cv_int h) fun _ _ _ h => cv_wk .e h) (nomark _)) fun _ _ _ h => cv_tOf (fun _ _ _ h => cv_op od_B0 h) h))) fun _ _ _ h => cv_or h)) fun _ _ _ h => cv_or h)) (pss_oneD (ps_of (ps_ret (pe_of pe_bl fun _ _ _ h => cv_bl h)) fun _ _ _ h => cvs_ret h)) pss_nilD) fun _ _ _ h => cvs_if h) (pss_oneD (ps_of (ps_if (PW.pt (pw_of (pw_and (pt_of (pt_cmpR op_le (pe_of (pe_of (pv 12) fun _ _ _ h => cv_varF rfl h) fun _ _ _ h => cv_fe h) (pe_of (pe_of (pv 6) fun _ _ _ h => cv_varF rfl h) fun _ _ _ h => cv_fe h) (nomark _)) fun _ _ _ h => cv_tOf (fun _ _ _ h => cv_op od_B0 h) h) (pw_and1 (pt_of (pt_not (pt_of (pt_cmpR op_lt (pe_of (pe_of (pe_ix ix_seq (pe_of (pv 8) fun _ _ _ h => cv_varF rfl h) (pe_of (pe_of (pv 12) fun _ _ _ h => cv_varF rfl h) fun _ _ _ h => cv_fe h) (fun _ _ => rfl)) fun _ _ _ h => cv_ix h) fun _ _ _ h => cv_fe h) (pe_of (pe_of (pe_ix ix_seq (pe_of (pv 7) fun _ _ _ h => cv_varF rfl h) (pe_of (pe_of (pv 12) fun _ _ _ h => cv_varF rfl h) fun _ _ _ h => cv_fe h) (fun _ _ => rfl)) fun _ _ _ h => cv_ix h) fun _ _ _ h => cv_fe h) (nomark _)) fun _ _ _ h => cv_tOf (fun _ _ _ h => cv_op od_B0 h) h)) fun _ _ _ h => cv_not h))) fun _ _ _ h => cv_and h)) (pss_oneD (ps_of (ps_ret (pe_of pe_bl fun _ _ _ h => cv_bl h)) fun _ _ _ h => cvs_ret h)) pss_nilD) fun _ _ _ h => cvs_if h))))))) fun _ _ _ h => cvs_if h) (pss_oneD (ps_of (ps_if (pt_of (pt_cmpR op_gt (pe_of (pe_of (pe_callB call_len (by rfl) T.z_len (by decide +kernel) (pa_consD (pe_of (pe_of (pe_lc (own := [("length", 12)]) rfl sc.nd (pi_of (pi_range1 rfl T.z_range (pa_consD (pe_of (pe_of (pe_op op_addU (pe_of (pe_of (pv 6) fun _ _ _ h => cv_varF rfl h) fun _ _ _ h => cv_fe h) (pe_of (pe_of pe_int fun _ _ _ h => cv_int h) fun _ _ _ h => cv_wk .e h)) fun _ _ _ h => cv_op od_add h) fun _ _ _ h => cv_wk .e h) pa_nilD)) fun _ _ _ h => cv_rng1 h) (blkOk_by (own := [("length", 12)]) (N := N_law) (sc := defScope S_law) (by decide +kernel)) (fun _ _ _ _ _ => (pg_of (pg_name (i := 12) sc.nd rfl (by first | exact Or.inl rfl | exact Or.inr rfl)) fun _ _ _ _ h => cv_gname rfl (by decide) h)) (fun _ _ _ _ _ => (pts_one (pt_of (pt_cmpR op_gt (pe_of (pe_of (pe_ix ix_seq (pe_of (pv 8) fun _ _ _ h => cv_varF rfl h) (pe_of (pe_of (pv 12) fun _ _ _ h => cv_varF rfl h) fun _ _ _ h => cv_fe h) (fun _ _ => rfl)) fun _ _ _ h => cv_ix h) fun _ _ _ h => cv_fe h) (pe_of (pe_of (pe_ix ix_seq (pe_of (pv 7) fun _ _ _ h => cv_varF rfl h) (pe_of (pe_of (pv 12) fun _ _ _ h => cv_varF rfl h) fun _ _ _ h => cv_fe h) (fun _ _ => rfl)) fun _ _ _ h => cv_ix h) fun _ _ _ h => cv_fe h) (nomark _)) fun _ _ _ h => cv_tOf (fun _ _ _ h => cv_op od_B0 h) h))) (fun _ _ _ _ _ => (pe_of (pe_of (pe_of (pv 12) fun _ _ _ h => cv_varF rfl h) fun _ _ _ h => cv_fe h) fun _ _ _ h => cv_imm h))) fun _ _ _ h => cv_lc .f h) fun _ _ _ h => cv_wk .e h) pa_nilD)) fun _ _ _ h => cv_cb cd_len h) fun _ _ _ h => cv_wk .e h) (pe_of (pe_of pe_int fun _ _ _ h => cv_int h) fun _ _ _ h => cv_wk .e h) (nomark _)) fun _ _ _ h => cv_tOf (fun _ _ _ h => cv_op od_B0 h) h) (pss_oneD (ps_of (ps_ret (pe_of pe_bl fun _ _ _ h => cv_bl h)) fun _ _ _ h => cvs_ret h)) pss_nilD) fun _ _ _ h => cvs_if h)))))))))) fun _ _ _ h => cvs_for (V := fun _ => True) h) (pss_oneD (ps_of (ps_ret (pe_of pe_bl fun _ _ _ h => cv_bl h)) fun _ _ _ h => cvs_ret h)))
  have tail_ex : PSs (cxOf CX0 P w K mg base N_law "law" (defScope S_law) T.a_law cdv A outer s H E).nox (defBody S_law).tail (fun D σ H => ∃ pl, liftS ⟨K, pl, M_law_k38⟩ sem_law_rest D σ H) :=
    ⟨fun pins s σ H D inv ⟨pl, h⟩ => (tail_ok pl).run pins s σ H D inv h⟩
  obtain ⟨a, ns, rfl, hS, q⟩ := h
  refine ⟨_, PSs.nox (pss_cons (ps_set (i := 1) sc.nd rfl (by first | exact Or.inl rfl | exact Or.inr rfl) (pe_call G__law_pool (hr.mono (by decide)) (by rfl) T.g__law_pool T.F__law_pool.kp b__law_pool .nil pass0 (pa_cons (pv 0) pa_nil))) tail_ex), ?_⟩
  have s0 : L2.start N_law [V.ref a] = some (.ref a) :: List.replicate 14 none := rfl
  rw [s0]
  refine ⟨_, rfl, a, ns, rfl, hS, fun aP aL H' s n1 n2 ne c1 c2 sub => ?_⟩
  refine ⟨some (aP, aL), H', fun _ => [], none :: some .pool :: List.replicate 13 none, { nx := fun _ => D.non = D.bl true, rt := fun d => d = D.bl true }, ?_, pure_law_rest (R := fun d => d = D.bl true) rfl ⟨none, none, none, none, none, none, none, none, none, none, none, none, none, rfl⟩, (fun _ _ _ _ z => nomatch z), (fun _ _ _ _ z => z.elim), (fun _ _ _ _ z => z.elim), fun d v H2 e _ _ f => ?_⟩
  · have em : msk (fun _ => []) (some (aP, aL)) H' = vis (some (aP, aL)) H' := by
      funext x
      unfold msk vis
      by_cases n : Hid (some (aP, aL)) x
      · rw [if_pos n, if_pos (.inl n)]
      · rw [if_neg n, if_neg (fun z => z.elim n fun ⟨i, h⟩ => (nomatch h))]
    refine ⟨rfl, fun _ => List.nodup_nil, fun i j x m => (by cases m), fun _ _ _ => rfl, fun i x m => (by cases m), by rw [em]; exact Sub.refl _, fun i d _ h => ?_, fun i d m _ => (by cases m), fun a' aL' e => ?_⟩
    · match i, h with
      | 0, h => cases h
      | 1, h =>
        cases h
        exact ⟨.ref aP, rfl, .pool rfl⟩
      | i + 2, h =>
        have h : (List.replicate 13 (none : Option D))[i]? = some (some d) := h
        obtain ⟨hi, e⟩ := List.getElem?_eq_some_iff.mp h
        rw [List.getElem_replicate] at e
        cases e
    · cases e
      exact ⟨ns, 0, 0, 0, s, ne, c1, c2, Int.le_refl 0⟩
  · subst e
    cases f
    exact q H2
end
end PD
set_option Elab.async false
set_option linter.all false
set_option maxRecDepth 100000
set_option maxHeartbeats 0
namespace PD
open PySem PySem.Spec PyProof.Rows L2
def loose0 : List PySem.Str := ["LETTERS", "ordered", "exchanged", "fine", "rests_of", "grown", "search", "rests", "two_rows", "spelled", "coder", "spread", "read_on", "reading", "counts", "count", "steps_from", "outputs", "_law_same", "_law_pool", "_law_spread", "_law_draw", "_law_pick", "_law_word", "_law_code", "_law_rows_of"]
def loose1 : List PySem.Str := []
abbrev R : PySem.W.OpenRow := PySem.W.OpenLaw.row PySem.Challenge.rw_eachtoone_k38_whole_rows_read_back
abbrev hk : PySem.W.Hook := He.hookD 4 fa fn
def ob (s : PySem.W.SharedT) : He.AlD := He.obsDG 4 fa fn (HandSHeadRun.getT s)
theorem ob_eq (s : PySem.W.SharedT) : ob s = hk.obs s.abs := He.obsDG_eq (HandSHeadRun.getT_eq s)
theorem run (w : World) : HandSHeadRun.RunEq R (PySem.W.view R.prog [31]) hk ob 2000 (loose0 ++ loose1) w := by
  intro os
  kernel_rfl
theorem facts_of {K : PySem.W.Frag} {h : Heap} {mg : Str → Option Value} (X : K.In h) (G : h.Ns mainGlobals mg) (c : He.SaysD fa fn K) : Nonempty (Facts K mg) := by
  obtain ⟨d__law_pool, F__law_pool⟩ := c.def_ 18 (d := D__law_pool) rfl
  obtain ⟨d_ordered, F_ordered⟩ := c.def_ 0 (d := D_ordered) rfl
  obtain ⟨d_exchanged, F_exchanged⟩ := c.def_ 1 (d := D_exchanged) rfl
  obtain ⟨d_fine, F_fine⟩ := c.def_ 2 (d := D_fine) rfl
  obtain ⟨d_spread, F_spread⟩ := c.def_ 10 (d := D_spread) rfl
  obtain ⟨d_read_on, F_read_on⟩ := c.def_ 11 (d := D_read_on) rfl
  obtain ⟨d_reading, F_reading⟩ := c.def_ 12 (d := D_reading) rfl
  obtain ⟨d__law_rows_of, F__law_rows_of⟩ := c.def_ 24 (d := D__law_rows_of) rfl
  obtain ⟨d__law_spread, F__law_spread⟩ := c.def_ 19 (d := D__law_spread) rfl
  obtain ⟨d__law_draw, F__law_draw⟩ := c.def_ 20 (d := D__law_draw) rfl
  obtain ⟨d__law_pick, F__law_pick⟩ := c.def_ 21 (d := D__law_pick) rfl
  obtain ⟨d__law_word, F__law_word⟩ := c.def_ 22 (d := D__law_word) rfl
  obtain ⟨d__law_code, F__law_code⟩ := c.def_ 23 (d := D__law_code) rfl
  obtain ⟨d_coder, F_coder⟩ := c.def_ 9 (d := D_coder) rfl
  obtain ⟨d_counts, F_counts⟩ := c.def_ 13 (d := D_counts) rfl
  obtain ⟨d_count, F_count⟩ := c.def_ 14 (d := D_count) rfl
  obtain ⟨d_rests_of, F_rests_of⟩ := c.def_ 3 (d := D_rests_of) rfl
  obtain ⟨d_grown, F_grown⟩ := c.def_ 4 (d := D_grown) rfl
  obtain ⟨d_search, F_search⟩ := c.def_ 5 (d := D_search) rfl
  obtain ⟨d_rests, F_rests⟩ := c.def_ 6 (d := D_rests) rfl
  obtain ⟨d_two_rows, F_two_rows⟩ := c.def_ 7 (d := D_two_rows) rfl
  obtain ⟨d_steps_from, F_steps_from⟩ := c.def_ 15 (d := D_steps_from) rfl
  obtain ⟨d_outputs, F_outputs⟩ := c.def_ 16 (d := D_outputs) rfl
  obtain ⟨d_spelled, F_spelled⟩ := c.def_ 8 (d := D_spelled) rfl
  obtain ⟨d__law_same, F__law_same⟩ := c.def_ 17 (d := D__law_same) rfl
  obtain ⟨d_law, F_law⟩ := c.def_ 25 (d := D_law) rfl
  exact ⟨{
    a__law_pool := _, d__law_pool := d__law_pool, F__law_pool := F__law_pool, g__law_pool := He.glo_ok X G (c.fact 18 (f := .glo "_law_pool") rfl),
    a_ordered := _, d_ordered := d_ordered, F_ordered := F_ordered, g_ordered := He.glo_ok X G (c.fact 0 (f := .glo "ordered") rfl),
    a_exchanged := _, d_exchanged := d_exchanged, F_exchanged := F_exchanged, g_exchanged := He.glo_ok X G (c.fact 1 (f := .glo "exchanged") rfl),
    a_fine := _, d_fine := d_fine, F_fine := F_fine, g_fine := He.glo_ok X G (c.fact 2 (f := .glo "fine") rfl),
    a_spread := _, d_spread := d_spread, F_spread := F_spread, g_spread := He.glo_ok X G (c.fact 10 (f := .glo "spread") rfl),
    a_read_on := _, d_read_on := d_read_on, F_read_on := F_read_on, g_read_on := He.glo_ok X G (c.fact 11 (f := .glo "read_on") rfl),
    a_reading := _, d_reading := d_reading, F_reading := F_reading, g_reading := He.glo_ok X G (c.fact 12 (f := .glo "reading") rfl),
    a__law_rows_of := _, d__law_rows_of := d__law_rows_of, F__law_rows_of := F__law_rows_of, g__law_rows_of := He.glo_ok X G (c.fact 24 (f := .glo "_law_rows_of") rfl),
    a__law_spread := _, d__law_spread := d__law_spread, F__law_spread := F__law_spread, g__law_spread := He.glo_ok X G (c.fact 19 (f := .glo "_law_spread") rfl),
    a__law_draw := _, d__law_draw := d__law_draw, F__law_draw := F__law_draw, g__law_draw := He.glo_ok X G (c.fact 20 (f := .glo "_law_draw") rfl),
    a__law_pick := _, d__law_pick := d__law_pick, F__law_pick := F__law_pick, g__law_pick := He.glo_ok X G (c.fact 21 (f := .glo "_law_pick") rfl),
    a__law_word := _, d__law_word := d__law_word, F__law_word := F__law_word, g__law_word := He.glo_ok X G (c.fact 22 (f := .glo "_law_word") rfl),
    a__law_code := _, d__law_code := d__law_code, F__law_code := F__law_code, g__law_code := He.glo_ok X G (c.fact 23 (f := .glo "_law_code") rfl),
    a_coder := _, d_coder := d_coder, F_coder := F_coder, g_coder := He.glo_ok X G (c.fact 9 (f := .glo "coder") rfl),
    a_counts := _, d_counts := d_counts, F_counts := F_counts, g_counts := He.glo_ok X G (c.fact 13 (f := .glo "counts") rfl),
    a_count := _, d_count := d_count, F_count := F_count, g_count := He.glo_ok X G (c.fact 14 (f := .glo "count") rfl),
    a_rests_of := _, d_rests_of := d_rests_of, F_rests_of := F_rests_of, g_rests_of := He.glo_ok X G (c.fact 3 (f := .glo "rests_of") rfl),
    a_grown := _, d_grown := d_grown, F_grown := F_grown, g_grown := He.glo_ok X G (c.fact 4 (f := .glo "grown") rfl),
    a_search := _, d_search := d_search, F_search := F_search, g_search := He.glo_ok X G (c.fact 5 (f := .glo "search") rfl),
    a_rests := _, d_rests := d_rests, F_rests := F_rests, g_rests := He.glo_ok X G (c.fact 6 (f := .glo "rests") rfl),
    a_two_rows := _, d_two_rows := d_two_rows, F_two_rows := F_two_rows, g_two_rows := He.glo_ok X G (c.fact 7 (f := .glo "two_rows") rfl),
    a_steps_from := _, d_steps_from := d_steps_from, F_steps_from := F_steps_from, g_steps_from := He.glo_ok X G (c.fact 15 (f := .glo "steps_from") rfl),
    a_outputs := _, d_outputs := d_outputs, F_outputs := F_outputs, g_outputs := He.glo_ok X G (c.fact 16 (f := .glo "outputs") rfl),
    a_spelled := _, d_spelled := d_spelled, F_spelled := F_spelled, g_spelled := He.glo_ok X G (c.fact 8 (f := .glo "spelled") rfl),
    a__law_same := _, d__law_same := d__law_same, F__law_same := F__law_same, g__law_same := He.glo_ok X G (c.fact 17 (f := .glo "_law_same") rfl),
    a_law := _, d_law := d_law, F_law := F_law, g_law := He.glo_ok X G (c.fact 25 (f := .glo "law") rfl),
    z_len := He.free_ok X G (c.fact 26 (f := .free "len") rfl),
    z_range := He.free_ok X G (c.fact 27 (f := .free "range") rfl),
    z_sorted := He.free_ok X G (c.fact 28 (f := .free "sorted") rfl),
    z_set := He.free_ok X G (c.fact 29 (f := .free "set") rfl),
    z_list := He.free_ok X G (c.fact 30 (f := .free "list") rfl),
    z_tuple := He.free_ok X G (c.fact 31 (f := .free "tuple") rfl),
    z_isinstance := He.free_ok X G (c.fact 32 (f := .free "isinstance") rfl),
    z_any := He.free_ok X G (c.fact 33 (f := .free "any") rfl),
    z_sum := He.free_ok X G (c.fact 34 (f := .free "sum") rfl),
    z_min := He.free_ok X G (c.fact 35 (f := .free "min") rfl),
    z_int := He.free_ok X G (c.fact 36 (f := .free "int") rfl),
    z_str := He.free_ok X G (c.fact 37 (f := .free "str") rfl),
    z_bool := He.free_ok X G (c.fact 38 (f := .free "bool") rfl),
    c_LETTERS := He.str_ok X G (c.fact 39 (f := .str "LETTERS" "abc") rfl) }⟩
end PD
open PySem PySem.W PySem.Calls PyProof.Rows
theorem PySem.Challenge.cw_eachtoone_k38_whole_rows_read_back_holds : PySem.Challenge.rw_eachtoone_k38_whole_rows_read_back.Holds := by
  w_on; o_law
  refine HandSHeadRun.head_any (r := OpenLaw.row PySem.Challenge.rw_eachtoone_k38_whole_rows_read_back) (q := view (OpenLaw.row PySem.Challenge.rw_eachtoone_k38_whole_rows_read_back).prog [31]) (H := PD.hk) (ob := PD.ob) (M := 2000) (loose := PD.loose0 ++ PD.loose1) (d := HandSHeadRun.topDef (OpenLaw.row PySem.Challenge.rw_eachtoone_k38_whole_rows_read_back).prog 31) (kwd := []) PD.ob_eq
    (by kernel_rfl) (fun s => by kernel_rfl) PD.run (by kernel_rfl) (by kernel_rfl) (by kernel_rfl) (by rfl) (by first | assumption | decide +kernel) (by decide +kernel) ⟨rfl, rfl, rfl, rfl, rfl, by decide +kernel⟩ ?hw ?hc
  case hw => w_witness2
  case hc =>
    refine L2.walk_ofE (l := PySem.Challenge.rw_eachtoone_k38_whole_rows_read_back) (n := 63) (k := 6) (x := "script") (CX := L2.CX0) rfl (by decide) (by kernel_rfl) ⟨rfl, by decide, by decide⟩ ?F (fun _ _ _ _ z => z)
    intro w mg fa h Y G hmg0
    obtain ⟨K, KX, c⟩ := Y
    have hmg : mg ("law" : PySem.Str) = some (.ref fa) := by
      have e : (HandSHeadRun.topDef (OpenLaw.row PySem.Challenge.rw_eachtoone_k38_whole_rows_read_back).prog 31).name = ("law" : PySem.Str) := by kernel_rfl
      rw [← e]
      exact hmg0
    obtain ⟨T⟩ := PD.facts_of KX G c
    have e := hmg.symm.trans T.g_law
    cases e
    have b := L2.FunD.bindsA (ps := ["script"]) T.F_law fun _ _ _ _ _ _ us hl => match us, hl with | [_], _ => rfl
    exact ⟨K, T.d_law, PD.spLaw K, KX, fun s v => b s [v] rfl, fun H a ns hl _ hS => ⟨a, ns, rfl, hS, fun _ => rfl⟩, fun base _ _ => PD.ok_law T⟩
