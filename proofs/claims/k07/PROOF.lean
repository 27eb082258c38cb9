import PyProof.Rows.All
import HandS.ForMost
import HandS.Deep
import HandS.IsInst
import HandS.Wide
import HandS.Style
import KE.SortData
import KE.DataCmp
import HandS.TupLe
import HandS.Conv
import PyProof.SumAny
import KE.KDictCopyH
import HandS.More
import HandS.DictSubView
import PyProof.ReprRoads
import PySem.Challenge.RW_restturns_k07_whole_counted
set_option Elab.async false
set_option linter.all false
set_option maxRecDepth 100000
namespace L3
open PySem PySem.Spec PyProof.Rows L2
/-- data, as trees -/
inductive D where
  | non | bl (b : Bool) | int (i : Int) | str (x : Str) | ty (n : String) | at (a : Addr)
  | lst (ds : List D) | tup (ds : List D) | obj (C : Addr) (fs : List (Str × D)) | dic (kvs : List (Key × D))
  | wit (H0 : Hp) (i : Int) | frT (H0 : Hp) (t : List (List Int)) | dicL (kvs : List (Key × D))
/-- data with the nodes that are nobody else's -/
inductive T where
  | sh (d : D) | lst (ts : List T) | obj (C : Addr) (fs : List (Str × T)) | dic (kvs : List (Key × D)) | regT (ts : List (List (List Int)))
/-- a row, a table, tables: as they lie -/
def RowAt (H : Hp) (v : V) (r : List Int) : Prop := ∃ a, v = .ref a ∧ H a = some (.lst (r.map V.int))
inductive RowsAt (H : Hp) : List V → List (List Int) → Prop
  | nil : RowsAt H [] []
  | cons {v : V} {vs : List V} {r : List Int} {rs : List (List Int)} : RowAt H v r → RowsAt H vs rs → RowsAt H (v :: vs) (r :: rs)
def TabAt (H : Hp) (v : V) (t : List (List Int)) : Prop := ∃ a vs, v = .ref a ∧ H a = some (.lst vs) ∧ RowsAt H vs t
inductive TabsAt (H : Hp) : List V → List (List (List Int)) → Prop
  | nil : TabsAt H [] []
  | cons {v : V} {vs : List V} {t : List (List Int)} {ts : List (List (List Int))} : TabAt H v t → TabsAt H vs ts → TabsAt H (v :: vs) (t :: ts)
/-- the heap without another one's addresses; with some addresses alone -/
def hid (H0 H : Hp) : Hp := fun b => if (H0 b).isSome = true then none else H b
def only (F : List Addr) (H : Hp) : Hp := fun b => if b ∈ F then H b else none
/-- all that is there is there -/
def Dom (H0 H : Hp) : Prop := ∀ b o, H0 b = some o → ∃ o', H b = some o'
theorem RowAt.sm {H H' : Hp} (e : Same H H') {v : V} {r : List Int} (h : RowAt H v r) : RowAt H' v r := by
  obtain ⟨a, h1, h2⟩ := h
  exact ⟨a, h1, e _ _ h2⟩
theorem RowsAt.sm {H H' : Hp} (e : Same H H') : ∀ {vs : List V} {rs : List (List Int)}, RowsAt H vs rs → RowsAt H' vs rs
  | _, _, .nil => .nil
  | _, _, .cons h k => .cons (h.sm e) (RowsAt.sm e k)
theorem TabAt.sm {H H' : Hp} (e : Same H H') {v : V} {t : List (List Int)} (h : TabAt H v t) : TabAt H' v t := by
  obtain ⟨a, vs, h1, h2, h3⟩ := h
  exact ⟨a, vs, h1, e _ _ h2, h3.sm e⟩
theorem TabsAt.sm {H H' : Hp} (e : Same H H') : ∀ {vs : List V} {ts : List (List (List Int))}, TabsAt H vs ts → TabsAt H' vs ts
  | _, _, .nil => .nil
  | _, _, .cons h k => .cons (h.sm e) (TabsAt.sm e k)
theorem hid_sm {H0 H H' : Hp} (e : Same H H') : Same (hid H0 H) (hid H0 H') := fun b o q => by
  unfold hid at q ⊢
  by_cases z : (H0 b).isSome = true
  · rw [if_pos z] at q
    cases q
  · rw [if_neg z] at q ⊢
    exact e _ _ q
theorem hid_le {H0 H : Hp} : Same (hid H0 H) H := fun b o q => by
  unfold hid at q
  by_cases z : (H0 b).isSome = true
  · rw [if_pos z] at q
    cases q
  · rw [if_neg z] at q
    exact q
theorem hid_no {H0 H : Hp} {b : Addr} {o : HO} (q : hid H0 H b = some o) : H0 b = none ∧ H b = some o := by
  unfold hid at q
  by_cases z : (H0 b).isSome = true
  · rw [if_pos z] at q
    cases q
  · rw [if_neg z] at q
    refine ⟨?_, q⟩
    cases h : H0 b with
    | none => rfl
    | some x => rw [h] at z; exact absurd rfl z
theorem only_in {F : List Addr} {H : Hp} {b : Addr} {o : HO} (q : only F H b = some o) : b ∈ F ∧ H b = some o := by
  unfold only at q
  by_cases z : b ∈ F
  · rw [if_pos z] at q
    exact ⟨z, q⟩
  · rw [if_neg z] at q
    cases q
theorem only_sm {F : List Addr} {H H' : Hp} (k : ∀ a ∈ F, ∀ o, H a = some o → H' a = some o) : Same (only F H) (only F H') := fun b o q => by
  obtain ⟨h1, h2⟩ := only_in q
  unfold only
  rw [if_pos h1]
  exact k b h1 o h2
theorem only_to {F : List Addr} {H R : Hp} (k : ∀ a ∈ F, ∀ o, H a = some o → R a = some o) : Same (only F H) R := fun b o q => k b (only_in q).1 o (only_in q).2
theorem Dom.sm {H0 H H' : Hp} (e : Same H H') (h : Dom H0 H) : Dom H0 H' := fun b o q => by
  obtain ⟨o', q'⟩ := h b o q
  exact ⟨o', e _ _ q'⟩
mutual
inductive Rp (K : PySem.W.Frag) (H : Hp) : V → D → Prop
  | non : Rp K H .non .non
  | bl (b : Bool) : Rp K H (.bl b) (.bl b)
  | int (i : Int) : Rp K H (.int i) (.int i)
  | str (x : Str) : Rp K H (.str x) (.str x)
  | ty (n : String) : Rp K H (.ty n) (.ty n)
  | at (a : Addr) : Rp K H (.ref a) (.at a)
  | lst {a : Addr} {xs : List V} {ds : List D} : H a = some (.lst xs) → Rps K H xs ds → Rp K H (.ref a) (.lst ds)
  | tup {a : Addr} {xs : List V} {ds : List D} : SqT K H a xs → Rps K H xs ds → Rp K H (.ref a) (.tup ds)
  | obj {a C dx : Addr} {xs : List (Str × V)} {ds : List (Str × D)} : H a = some (.ins C dx xs) → Rpf K H xs ds → Rp K H (.ref a) (.obj C ds)
  | dic {a : Addr} {xs : List (Key × V)} {ds : List (Key × D)} : H a = some (.dK xs) → Rpk K H xs ds → Rp K H (.ref a) (.dic ds)
  | wit {H0 : Hp} {i : Int} : Dom H0 H → Rp K H (.int i) (.wit H0 i)
  | dicL {a : Addr} {o : Obj} {xs : List (Key × V)} {ds : List (Key × D)} : H a = some (.frz o (.dK xs)) → Rpk K H xs ds → Rp K H (.ref a) (.dicL ds)
  | frT {H0 : Hp} {v : V} {t : List (List Int)} : Dom H0 H → TabAt (hid H0 H) v t → Rp K H v (.frT H0 t)
inductive Rps (K : PySem.W.Frag) (H : Hp) : List V → List D → Prop
  | nil : Rps K H [] []
  | cons {v : V} {vs : List V} {d : D} {ds : List D} : Rp K H v d → Rps K H vs ds → Rps K H (v :: vs) (d :: ds)
inductive Rpf (K : PySem.W.Frag) (H : Hp) : List (Str × V) → List (Str × D) → Prop
  | nil : Rpf K H [] []
  | cons {n : Str} {v : V} {vs : List (Str × V)} {d : D} {ds : List (Str × D)} : Rp K H v d → Rpf K H vs ds → Rpf K H ((n, v) :: vs) ((n, d) :: ds)
inductive Rpk (K : PySem.W.Frag) (H : Hp) : List (Key × V) → List (Key × D) → Prop
  | nil : Rpk K H [] []
  | cons {n : Key} {v : V} {vs : List (Key × V)} {d : D} {ds : List (Key × D)} : Rp K H v d → Rpk K H vs ds → Rpk K H ((n, v) :: vs) ((n, d) :: ds)
end
mutual
/-- R: what is shared; H: the heap; the last: the addresses of the own nodes -/
inductive RT (K : PySem.W.Frag) (R H : Hp) : V → T → List Addr → Prop
  | sh {v : V} {d : D} : Rp K R v d → RT K R H v (.sh d) []
  | lst {a : Addr} {vs : List V} {ts : List T} {F : List Addr} : H a = some (.lst vs) → RTs K R H vs ts F → RT K R H (.ref a) (.lst ts) (a :: F)
  | obj {a C dx : Addr} {vs : List (Str × V)} {ts : List (Str × T)} {F : List Addr} : H a = some (.ins C dx vs) → RTf K R H vs ts F → RT K R H (.ref a) (.obj C ts) (a :: F)
  | dic {a : Addr} {vs : List (Key × V)} {ds : List (Key × D)} : H a = some (.dK vs) → Rpk K R vs ds → RT K R H (.ref a) (.dic ds) [a]
  | regT {a : Addr} {vs : List V} {ts : List (List (List Int))} {F : List Addr} : only F H a = some (.lst vs) → TabsAt (only F H) vs ts → (∀ b ∈ F, ∃ o, H b = some o) → RT K R H (.ref a) (.regT ts) F
inductive RTs (K : PySem.W.Frag) (R H : Hp) : List V → List T → List Addr → Prop
  | nil : RTs K R H [] [] []
  | cons {v : V} {vs : List V} {t : T} {ts : List T} {F G : List Addr} : RT K R H v t F → RTs K R H vs ts G → RTs K R H (v :: vs) (t :: ts) (F ++ G)
inductive RTf (K : PySem.W.Frag) (R H : Hp) : List (Str × V) → List (Str × T) → List Addr → Prop
  | nil : RTf K R H [] [] []
  | cons {n : Str} {v : V} {vs : List (Str × V)} {t : T} {ts : List (Str × T)} {F G : List Addr} : RT K R H v t F → RTf K R H vs ts G → RTf K R H ((n, v) :: vs) ((n, t) :: ts) (F ++ G)
end
mutual
def T.er : T → D
  | .sh d => d
  | .lst ts => .lst (T.ers ts)
  | .obj C ts => .obj C (T.erf ts)
  | .dic ds => .dic ds
  | .regT ts => .lst (ts.map fun t => .lst (t.map fun r => .lst (r.map D.int)))
def T.ers : List T → List D
  | [] => []
  | t :: ts => t.er :: T.ers ts
def T.erf : List (Str × T) → List (Str × D)
  | [] => []
  | (n, t) :: ts => (n, t.er) :: T.erf ts
end
section
variable {K : PySem.W.Frag} {H H' R R' : Hp}
theorem SqL.sm {a : Addr} {xs : List V} (e : Same H H') (h : SqL K H a xs) : SqL K H' a xs := e.seq h
theorem SqT.sm {a : Addr} {xs : List V} (e : Same H H') (h : SqT K H a xs) : SqT K H' a xs := by
  rcases h with (h | ⟨o, h⟩) | h
  · exact .inl (.inl (e _ _ h))
  · exact .inl (.inr ⟨o, e _ _ h⟩)
  · exact .inr h
mutual
theorem Rp.sm (e : Same H H') : ∀ {v : V} {d : D}, Rp K H v d → Rp K H' v d
  | _, _, .non => .non
  | _, _, .bl b => .bl b
  | _, _, .int b => .int b
  | _, _, .str b => .str b
  | _, _, .ty b => .ty b
  | _, _, .at b => .at b
  | _, _, .lst h r => .lst (e _ _ h) (Rps.sm e r)
  | _, _, .tup h r => .tup (SqT.sm e h) (Rps.sm e r)
  | _, _, .obj h r => .obj (e _ _ h) (Rpf.sm e r)
  | _, _, .dic h r => .dic (e _ _ h) (Rpk.sm e r)
  | _, _, .wit h => .wit (h.sm e)
  | _, _, .dicL h r => .dicL (e _ _ h) (Rpk.sm e r)
  | _, _, .frT h r => .frT (h.sm e) (r.sm (hid_sm e))
theorem Rps.sm (e : Same H H') : ∀ {v : List V} {d : List D}, Rps K H v d → Rps K H' v d
  | _, _, .nil => .nil
  | _, _, .cons h r => .cons (Rp.sm e h) (Rps.sm e r)
theorem Rpf.sm (e : Same H H') : ∀ {v : List (Str × V)} {d : List (Str × D)}, Rpf K H v d → Rpf K H' v d
  | _, _, .nil => .nil
  | _, _, .cons h r => .cons (Rp.sm e h) (Rpf.sm e r)
theorem Rpk.sm (e : Same H H') : ∀ {v : List (Key × V)} {d : List (Key × D)}, Rpk K H v d → Rpk K H' v d
  | _, _, .nil => .nil
  | _, _, .cons h r => .cons (Rp.sm e h) (Rpk.sm e r)
end
/-- the own nodes stay -/
def Keep (F : List Addr) (H H' : Hp) : Prop := ∀ a ∈ F, ∀ o, H a = some o → H' a = some o
theorem Keep.of (e : Same H H') {F : List Addr} : Keep F H H' := fun a _ o h => e a o h
mutual
theorem RT.sm (e : Same R R') : ∀ {v : V} {t : T} {F : List Addr}, RT K R H v t F → Keep F H H' → RT K R' H' v t F
  | _, _, _, .sh h, _ => .sh (h.sm e)
  | _, _, _, .lst h r, k => .lst (k _ (List.mem_cons_self ..) _ h) (RTs.sm e r fun a ha => k a (List.mem_cons_of_mem _ ha))
  | _, _, _, .obj h r, k => .obj (k _ (List.mem_cons_self ..) _ h) (RTf.sm e r fun a ha => k a (List.mem_cons_of_mem _ ha))
  | _, _, _, .dic h r, k => .dic (k _ (List.mem_cons_self ..) _ h) (r.sm e)
  | _, _, _, .regT h r fs, k => .regT (only_sm k _ _ h) (r.sm (only_sm k)) fun b hb => by
    obtain ⟨o, q⟩ := fs b hb
    exact ⟨o, k b hb o q⟩
theorem RTs.sm (e : Same R R') : ∀ {v : List V} {t : List T} {F : List Addr}, RTs K R H v t F → Keep F H H' → RTs K R' H' v t F
  | _, _, _, .nil, _ => .nil
  | _, _, _, .cons h r, k => .cons (RT.sm e h fun a ha => k a (List.mem_append_left _ ha)) (RTs.sm e r fun a ha => k a (List.mem_append_right _ ha))
theorem RTf.sm (e : Same R R') : ∀ {v : List (Str × V)} {t : List (Str × T)} {F : List Addr}, RTf K R H v t F → Keep F H H' → RTf K R' H' v t F
  | _, _, _, .nil, _ => .nil
  | _, _, _, .cons h r, k => .cons (RT.sm e h fun a ha => k a (List.mem_append_left _ ha)) (RTf.sm e r fun a ha => k a (List.mem_append_right _ ha))
end
theorem ints_rp {K : PySem.W.Frag} {H : Hp} : ∀ r : List Int, Rps K H (r.map V.int) (r.map D.int)
  | [] => .nil
  | x :: r => .cons (.int x) (ints_rp r)
theorem rows_rp {K : PySem.W.Frag} {H : Hp} : ∀ {vs : List V} {rs : List (List Int)}, RowsAt H vs rs → Rps K H vs (rs.map fun r => .lst (r.map D.int))
  | _, _, .nil => .nil
  | _, _, .cons ⟨a, e, h⟩ k => e ▸ .cons (.lst h (ints_rp _)) (rows_rp k)
theorem tab_rp {K : PySem.W.Frag} {H : Hp} {v : V} {t : List (List Int)} (h : TabAt H v t) : Rp K H v (.lst (t.map fun r => .lst (r.map D.int))) := by
  obtain ⟨a, vs, e, h1, h2⟩ := h
  exact e ▸ .lst h1 (rows_rp h2)
theorem tabs_rp {K : PySem.W.Frag} {H : Hp} : ∀ {vs : List V} {ts : List (List (List Int))}, TabsAt H vs ts → Rps K H vs (ts.map fun t => .lst (t.map fun r => .lst (r.map D.int)))
  | _, _, .nil => .nil
  | _, _, .cons h k => .cons (tab_rp h) (tabs_rp k)
mutual
theorem RT.rp (e : Same R R') : ∀ {v : V} {t : T} {F : List Addr}, RT K R H v t F → Keep F H R' → Rp K R' v t.er
  | _, _, _, .sh h, _ => h.sm e
  | _, _, _, .lst h r, k => .lst (k _ (List.mem_cons_self ..) _ h) (RTs.rp e r fun a ha => k a (List.mem_cons_of_mem _ ha))
  | _, _, _, .obj h r, k => .obj (k _ (List.mem_cons_self ..) _ h) (RTf.rp e r fun a ha => k a (List.mem_cons_of_mem _ ha))
  | _, _, _, .dic h r, k => .dic (k _ (List.mem_cons_self ..) _ h) (r.sm e)
  | _, _, _, .regT h r _, k => .lst (only_to k _ _ h) (tabs_rp (r.sm (only_to k)))
theorem RTs.rp (e : Same R R') : ∀ {v : List V} {t : List T} {F : List Addr}, RTs K R H v t F → Keep F H R' → Rps K R' v (T.ers t)
  | _, _, _, .nil, _ => .nil
  | _, _, _, .cons h r, k => .cons (RT.rp e h fun a ha => k a (List.mem_append_left _ ha)) (RTs.rp e r fun a ha => k a (List.mem_append_right _ ha))
theorem RTf.rp (e : Same R R') : ∀ {v : List (Str × V)} {t : List (Str × T)} {F : List Addr}, RTf K R H v t F → Keep F H R' → Rpf K R' v (T.erf t)
  | _, _, _, .nil, _ => .nil
  | _, _, _, .cons h r, k => .cons (RT.rp e h fun a ha => k a (List.mem_append_left _ ha)) (RTf.rp e r fun a ha => k a (List.mem_append_right _ ha))
end
mutual
theorem RT.fs : ∀ {v : V} {t : T} {F : List Addr}, RT K R H v t F → ∀ a ∈ F, ∃ o, H a = some o
  | _, _, _, .sh _, a, ha => nomatch ha
  | _, _, _, .lst h r, a, ha => (List.mem_cons.mp ha).elim (fun e => e ▸ ⟨_, h⟩) fun k => RTs.fs r a k
  | _, _, _, .obj h r, a, ha => (List.mem_cons.mp ha).elim (fun e => e ▸ ⟨_, h⟩) fun k => RTf.fs r a k
  | _, _, _, .dic h r, a, ha => (List.mem_cons.mp ha).elim (fun e => e ▸ ⟨_, h⟩) fun k => nomatch k
  | _, _, _, .regT _ _ fs, a, ha => fs a ha
theorem RTs.fs : ∀ {v : List V} {t : List T} {F : List Addr}, RTs K R H v t F → ∀ a ∈ F, ∃ o, H a = some o
  | _, _, _, .nil, a, ha => nomatch ha
  | _, _, _, .cons h r, a, ha => (List.mem_append.mp ha).elim (RT.fs h a) (RTs.fs r a)
theorem RTf.fs : ∀ {v : List (Str × V)} {t : List (Str × T)} {F : List Addr}, RTf K R H v t F → ∀ a ∈ F, ∃ o, H a = some o
  | _, _, _, .nil, a, ha => nomatch ha
  | _, _, _, .cons h r, a, ha => (List.mem_append.mp ha).elim (RT.fs h a) (RTf.fs r a)
end
/-- the heap without some addresses -/
def del (F : List Addr) (H : Hp) : Hp := fun b => if b ∈ F then none else H b
theorem del_out {F : List Addr} {b : Addr} (h : b ∉ F) : del F H b = H b := by unfold del; rw [if_neg h]
theorem del_in {F : List Addr} {b : Addr} (h : b ∈ F) : del F H b = none := by unfold del; rw [if_pos h]
theorem del_some {F : List Addr} {b : Addr} {o : HO} (h : del F H b = some o) : b ∉ F ∧ H b = some o := by
  unfold del at h
  split at h
  · cases h
  · exact ⟨by assumption, h⟩
theorem del_nil : del [] H = H := by funext b; exact del_out (by simp)
theorem del_le {F : List Addr} : Same (del F H) H := fun b o h => (del_some h).2
theorem del_sm {F : List Addr} (e : Same H H') : Same (del F H) (del F H') := fun b o h => by
  obtain ⟨h1, h2⟩ := del_some h
  rw [del_out h1]
  exact e _ _ h2
theorem del_sub {F G : List Addr} (h : ∀ a ∈ G, a ∈ F) : Same (del F H) (del G H) := fun b o q => by
  obtain ⟨h1, h2⟩ := del_some q
  rw [del_out fun z => h1 (h b z)]
  exact h2
/-- fresh addresses besides -/
theorem del_new {F G : List Addr} (e : Same H H') (h : ∀ a ∈ G, a ∈ F ∨ H a = none) : Same (del F H) (del G H') := fun b o q => by
  obtain ⟨h1, h2⟩ := del_some q
  rw [del_out fun z => (h b z).elim h1 fun n => by rw [n] at h2; cases h2]
  exact e _ _ h2
end
/-- the slots' trees -/
abbrev Rho := List (Option T)
/-- the slots hold them -/
inductive RO (K : PySem.W.Frag) (R H : Hp) : L2.St → Rho → List Addr → Prop
  | nil : RO K R H [] [] []
  | no {o : Option V} {σ : L2.St} {ρ : Rho} {G : List Addr} : RO K R H σ ρ G → RO K R H (o :: σ) (none :: ρ) G
  | yes {v : V} {t : T} {σ : L2.St} {ρ : Rho} {F G : List Addr} : RT K R H v t F → RO K R H σ ρ G → RO K R H (some v :: σ) (some t :: ρ) (F ++ G)
/-- the state: own nodes F, nobody's but others' nodes G, no address twice -/
structure S3 (K : PySem.W.Frag) (G : List Addr) (σ : L2.St) (H : Hp) (ρ : Rho) (F : List Addr) : Prop where
  ro : RO K (del (F ++ G) H) H σ ρ F
  nd : (F ++ G).Nodup
  gs : ∀ a ∈ G, ∃ o, H a = some o
section
variable {K : PySem.W.Frag} {H H' R R' : Hp} {σ : L2.St} {ρ : Rho} {F G : List Addr}
theorem RO.sm (e : Same R R') (h : RO K R H σ ρ F) (k : Keep F H H') : RO K R' H' σ ρ F := by
  induction h with
  | nil => exact .nil
  | no _ ih => exact .no (ih k)
  | yes r _ ih => exact .yes (r.sm e fun a ha => k a (List.mem_append_left _ ha)) (ih fun a ha => k a (List.mem_append_right _ ha))
theorem RO.fs (h : RO K R H σ ρ F) : ∀ a ∈ F, ∃ o, H a = some o := by
  induction h with
  | nil => intro a ha; cases ha
  | no _ ih => exact ih
  | yes r _ ih => intro a ha; exact (List.mem_append.mp ha).elim (r.fs a) (ih a)
theorem RO.len (h : RO K R H σ ρ F) : σ.length = ρ.length := by
  induction h with
  | nil => rfl
  | no _ ih => rw [List.length_cons, List.length_cons, ih]
  | yes r _ ih => rw [List.length_cons, List.length_cons, ih]
/-- the i-th slot, and the others -/
theorem RO.get (h : RO K R H σ ρ F) : ∀ {i : Nat} {t : T}, ρ[i]? = some (some t) → ∃ v F1 F2 F3, σ[i]? = some (some v) ∧ RT K R H v t F2 ∧ F = F1 ++ (F2 ++ F3) ∧
    ∀ (w : V) (R' H' : Hp) (u : T) (F2' : List Addr), Same R R' → Keep (F1 ++ F3) H H' → RT K R' H' w u F2' → RO K R' H' (σ.set i (some w)) (ρ.set i (some u)) (F1 ++ (F2' ++ F3)) := by
  induction h with
  | nil => intro i t e; simp at e
  | @no o σ ρ G h ih =>
    intro i t e
    cases i with
    | zero => simp at e
    | succ i =>
      obtain ⟨v, F1, F2, F3, e1, r, e2, f⟩ := ih (by simpa using e)
      exact ⟨v, F1, F2, F3, by simpa using e1, r, e2, fun w R' H' u F2' s k r' => .no (f w R' H' u F2' s k r')⟩
  | @yes v t σ ρ F G r h ih =>
    intro i t' e
    cases i with
    | zero =>
      simp at e
      subst e
      refine ⟨v, [], F, G, rfl, r, rfl, fun w R' H' u F2' s k r' => ?_⟩
      show RO K R' H' (some w :: σ) (some u :: ρ) (F2' ++ G)
      exact .yes r' (h.sm s k)
    | succ i =>
      obtain ⟨v', F1, F2, F3, e1, r1, e2, f⟩ := ih (by simpa using e)
      refine ⟨v', F ++ F1, F2, F3, by simpa using e1, r1, by rw [e2, List.append_assoc], fun w R' H' u F2' s k r' => ?_⟩
      rw [List.append_assoc]
      refine .yes (r.sm s fun a ha => k a ?_) (f w R' H' u F2' s (fun a ha => k a ?_) r')
      · exact List.mem_append_left _ (List.mem_append_left _ ha)
      · rw [List.append_assoc]; exact List.mem_append_right _ ha
/-- a slot's tree is dropped, another one stored -/
theorem RO.put (h : RO K R H σ ρ F) : ∀ (i : Nat), i < ρ.length → ∃ F1 F2 F3, F = F1 ++ (F2 ++ F3) ∧
    ∀ (w : Option V) (R' H' : Hp) (u : Option T) (F2' : List Addr), Same R R' → Keep (F1 ++ F3) H H' → (match w, u with | some w, some u => RT K R' H' w u F2' | _, none => F2' = [] | _, _ => False) → RO K R' H' (σ.set i w) (ρ.set i u) (F1 ++ (F2' ++ F3)) := by
  induction h with
  | nil => intro i e; simp at e
  | @no o σ ρ G h ih =>
    intro i e
    cases i with
    | zero =>
      refine ⟨[], [], G, rfl, fun w R' H' u F2' s k r' => ?_⟩
      cases u with
      | none =>
        have : F2' = [] := by cases w <;> exact r'
        subst this
        exact .no (h.sm s k)
      | some u =>
        cases w with
        | none => exact r'.elim
        | some w =>
          show RO K R' H' (some w :: σ) (some u :: ρ) (F2' ++ G)
          exact .yes r' (h.sm s k)
    | succ i =>
      obtain ⟨F1, F2, F3, e2, f⟩ := ih i (by simpa using e)
      exact ⟨F1, F2, F3, e2, fun w R' H' u F2' s k r' => .no (f w R' H' u F2' s k r')⟩
  | @yes v t σ ρ F G r h ih =>
    intro i e
    cases i with
    | zero =>
      refine ⟨[], F, G, rfl, fun w R' H' u F2' s k r' => ?_⟩
      cases u with
      | none =>
        have : F2' = [] := by cases w <;> exact r'
        subst this
        exact .no (h.sm s k)
      | some u =>
        cases w with
        | none => exact r'.elim
        | some w =>
          show RO K R' H' (some w :: σ) (some u :: ρ) (F2' ++ G)
          exact .yes r' (h.sm s k)
    | succ i =>
      obtain ⟨F1, F2, F3, e2, f⟩ := ih i (by simpa using e)
      refine ⟨F ++ F1, F2, F3, by rw [e2, List.append_assoc], fun w R' H' u F2' s k r' => ?_⟩
      rw [List.append_assoc]
      refine .yes (r.sm s fun a ha => k a ?_) (f w R' H' u F2' s (fun a ha => k a ?_) r')
      · exact List.mem_append_left _ (List.mem_append_left _ ha)
      · rw [List.append_assoc]; exact List.mem_append_right _ ha
/-- the heap has grown -/
theorem S3.sm (h : S3 K G σ H ρ F) (e : Same H H') : S3 K G σ H' ρ F :=
  ⟨h.ro.sm (del_sm e) (.of e), h.nd, fun a ha => let ⟨o, q⟩ := h.gs a ha; ⟨o, e a o q⟩⟩
theorem S3.fs (h : S3 K G σ H ρ F) : ∀ a ∈ F ++ G, ∃ o, H a = some o := fun a ha => (List.mem_append.mp ha).elim (h.ro.fs a) (h.gs a)
end
/-! ### the best reading -/
structure best (X : Cx) (e : Expr) (σ : L2.St) (H : Hp) (Q : VK) : Prop where
  run : ∀ (pins : List (Addr × Obj)) (s : Shared), Inv X pins σ H s → wpAny (model X.prog X.w) X.A (eval e X.env) (EP X pins σ Q) X.xe s
theorem pe_best {X : Cx} {e : Expr} : PE X e (best X e) := ⟨fun pins s σ H Q I h => h.run pins s I⟩
theorem best.of {X : Cx} {e : Expr} {t : TE} (h : PE X e t) {σ : L2.St} {H : Hp} {Q : VK} (q : t σ H Q) : best X e σ H Q := ⟨fun pins s I => h.run pins s σ H Q I q⟩
theorem best.mono {X : Cx} {e : Expr} {σ : L2.St} {H : Hp} {Q Q' : VK} (h : best X e σ H Q) (q : ∀ v H', Q v H' → Q' v H') : best X e σ H Q' := ⟨fun pins s I =>
  thn (h.run pins s I) fun u s' ⟨v, H', I', r, z⟩ => ⟨v, H', I', r, q v H' z⟩⟩
structure bestA (X : Cx) (es : List Expr) (σ : L2.St) (H : Hp) (Q : List V → Hp → Prop) : Prop where
  run : ∀ (pos : Pos) (pins : List (Addr × Obj)) (s : Shared), Inv X pins σ H s → wpAny (model X.prog X.w) X.A (spliced (backTo pos (starEach es X.env))) (AP X pins σ Q) X.xe s
theorem pa_best {X : Cx} {es : List Expr} : PA X es (bestA X es) := ⟨fun pos pins s σ H Q I h => h.run pos pins s I⟩
theorem bestA.of {X : Cx} {es : List Expr} {t : TA} (h : PA X es t) {σ : L2.St} {H : Hp} {Q : List V → Hp → Prop} (q : t σ H Q) : bestA X es σ H Q := ⟨fun pos pins s I => h.run pos pins s σ H Q I q⟩
structure bestT (X : Cx) (e : Expr) (σ : L2.St) (H : Hp) (Q : Bool → Hp → Prop) : Prop where
  run : ∀ (pins : List (Addr × Obj)) (s : Shared), Inv X pins σ H s → wpAny (model X.prog X.w) X.A (isTrue e X.env (eval e X.env)) (TP X pins σ Q) X.xe s
theorem pt_best {X : Cx} {e : Expr} : PT X e (bestT X e) := ⟨fun pins s σ H Q I h => h.run pins s I⟩
theorem bestT.of {X : Cx} {e : Expr} {t : TT} (h : PT X e t) {σ : L2.St} {H : Hp} {Q : Bool → Hp → Prop} (q : t σ H Q) : bestT X e σ H Q := ⟨fun pins s I => h.run pins s σ H Q I q⟩
/-! ### what an expression gives -/
/-- own nodes E are new; all else that the rest knows is shared -/
structure Res (K : PySem.W.Frag) (N : List Addr) (H H' : Hp) (v : V) (t : T) (E : List Addr) : Prop where
  sm : Same H H'
  fr : ∀ a ∈ E, H a = none
  nd : E.Nodup
  rt : RT K (del (E ++ N) H') H' v t E
structure ResA (K : PySem.W.Frag) (N : List Addr) (H H' : Hp) (v : List V) (t : List T) (E : List Addr) : Prop where
  sm : Same H H'
  fr : ∀ a ∈ E, H a = none
  nd : E.Nodup
  rt : RTs K (del (E ++ N) H') H' v t E
/-- a fresh, owned tree -/
def Ev (X : Cx) (ρ : Rho) (e : Expr) (t : T) : Prop := ∀ (σ : L2.St) (H : Hp) (F G : List Addr) (Q : VK), S3 X.K G σ H ρ F → (∀ v H' E, Res X.K (F ++ G) H H' v t E → Q v H') → best X e σ H Q
/-- data to look at -/
def Rd (X : Cx) (ρ : Rho) (e : Expr) (d : D) : Prop := ∀ (σ : L2.St) (H : Hp) (F G : List Addr) (Q : VK), S3 X.K G σ H ρ F → (∀ v H', Same H H' → Rp X.K H' v d → Q v H') → best X e σ H Q
def EvA (X : Cx) (ρ : Rho) (es : List Expr) (ts : List T) : Prop := ∀ (σ : L2.St) (H : Hp) (F G : List Addr) (Q : List V → Hp → Prop), S3 X.K G σ H ρ F → (∀ v H' E, ResA X.K (F ++ G) H H' v ts E → Q v H') → bestA X es σ H Q
def RdA (X : Cx) (ρ : Rho) (es : List Expr) (ds : List D) : Prop := ∀ (σ : L2.St) (H : Hp) (F G : List Addr) (Q : List V → Hp → Prop), S3 X.K G σ H ρ F → (∀ v H', Same H H' → Rps X.K H' v ds → Q v H') → bestA X es σ H Q
/-- a test -/
def Te (X : Cx) (ρ : Rho) (e : Expr) (b : Bool) : Prop := ∀ (σ : L2.St) (H : Hp) (F G : List Addr) (Q : Bool → Hp → Prop), S3 X.K G σ H ρ F → (∀ H', Same H H' → Q b H') → bestT X e σ H Q
section
variable {K : PySem.W.Frag} {H H' H1 H2 : Hp} {N E : List Addr} {v : V} {t : T}
theorem app_sub {A B : List Addr} : ∀ a ∈ B, a ∈ A ++ B := fun a h => List.mem_append_right _ h
theorem Res.rp (h : Res K N H H' v t E) : Rp K H' v t.er := h.rt.rp del_le fun a _ o q => q
/-- what is new is no one's -/
theorem Res.freeze (h : Res K N H H' v t E) (hn : ∀ a ∈ N, ∃ o, H a = some o) : Res K N H H' v (.sh t.er) [] := by
  refine ⟨h.sm, (fun a z => nomatch z), List.nodup_nil, .sh ?_⟩
  refine h.rt.rp (del_sub fun a ha => List.mem_append_right _ ha) fun a ha o q => ?_
  refine (del_out fun z => ?_).trans q
  obtain ⟨o, e⟩ := hn a z
  rw [h.fr a ha] at e
  cases e
theorem Res.mono (h : Res K N H1 H' v t E) (e : Same H H1) : Res K N H H' v t E := ⟨e.trans h.sm, fun a ha => e.free (h.fr a ha), h.nd, h.rt⟩
theorem ResA.mono {v : List V} {t : List T} (h : ResA K N H1 H' v t E) (e : Same H H1) : ResA K N H H' v t E := ⟨e.trans h.sm, fun a ha => e.free (h.fr a ha), h.nd, h.rt⟩
theorem ResA.rp {v : List V} {t : List T} (h : ResA K N H H' v t E) : Rps K H' v (T.ers t) := h.rt.rp del_le fun a _ o q => q
/-- own nodes and the others' lie apart -/
theorem apart (hn : ∀ a ∈ N, ∃ o, H a = some o) (hE : ∀ a ∈ E, H a = none) : ∀ a ∈ E, a ∉ N := fun a ha z => by
  obtain ⟨o, e⟩ := hn a z
  rw [hE a ha] at e
  cases e
/-- the first result stays behind the second one's making -/
theorem RT.keep {E2 : List Addr} (h : RT K (del (E ++ N) H1) H1 v t E) (e : Same H1 H2) (f : ∀ a ∈ E2, H1 a = none) : RT K (del (E ++ (E2 ++ N)) H2) H2 v t E :=
  h.sm (del_new e fun a ha => by
    rcases List.mem_append.mp ha with z | z
    · exact .inl (List.mem_append_left _ z)
    · rcases List.mem_append.mp z with z | z
      · exact .inr (f a z)
      · exact .inl (List.mem_append_right _ z)) (.of e)
theorem RTs.keep {E2 : List Addr} {v : List V} {t : List T} (h : RTs K (del (E ++ N) H1) H1 v t E) (e : Same H1 H2) (f : ∀ a ∈ E2, H1 a = none) : RTs K (del (E ++ (E2 ++ N)) H2) H2 v t E :=
  h.sm (del_new e fun a ha => by
    rcases List.mem_append.mp ha with z | z
    · exact .inl (List.mem_append_left _ z)
    · rcases List.mem_append.mp z with z | z
      · exact .inr (f a z)
      · exact .inl (List.mem_append_right _ z)) (.of e)
theorem RT.less {R R' : Hp} {F : List Addr} (h : RT K R H v t F) (e : Same R R') : RT K R' H v t F := h.sm e fun a _ o q => q
theorem RTs.less {R R' : Hp} {F : List Addr} {v : List V} {t : List T} (h : RTs K R H v t F) (e : Same R R') : RTs K R' H v t F := h.sm e fun a _ o q => q
end
section
variable {X : Cx} {ρ : Rho} {e a b : Expr} {es : List Expr} {t : T} {d : D} {pos : Pos}
theorem Ev.rd (h : Ev X ρ e t) : Rd X ρ e t.er := fun σ H F G Q S k => h σ H F G Q S fun v H' E r => k v H' r.sm r.rp
theorem Ev.rd' (h : Ev X ρ e t) (q : t.er = d) : Rd X ρ e d := q ▸ h.rd
theorem Ev.fz (h : Ev X ρ e t) : Ev X ρ e (.sh t.er) := fun σ H F G Q S k => h σ H F G Q S fun v H' E r => k v H' [] (r.freeze S.fs)
theorem Ev.fz' (h : Ev X ρ e t) (q : t.er = d) : Ev X ρ e (.sh d) := q ▸ h.fz
/-- data that is nowhere in the heap -/
def Sc : D → Prop
  | .non => True | .bl _ => True | .int _ => True | .str _ => True | .ty _ => True | .at _ => True | _ => False
theorem Sc.rp {K : PySem.W.Frag} {H H' : Hp} {v : V} {d : D} (h : Rp K H v d) (s : Sc d) : Rp K H' v d := by
  cases h with
  | non => exact .non
  | bl b => exact .bl b
  | int b => exact .int b
  | str b => exact .str b
  | ty b => exact .ty b
  | «at» b => exact .at b
  | lst _ _ => exact s.elim
  | tup _ _ => exact s.elim
  | obj _ _ => exact s.elim
  | dic _ _ => exact s.elim
  | wit _ => exact s.elim
  | dicL _ _ => exact s.elim
  | frT _ _ => exact s.elim
theorem Rd.ev (h : Rd X ρ e d) (s : Sc d) : Ev X ρ e (.sh d) := fun σ H F G Q S k => h σ H F G Q S fun v H' sm r => k v H' [] ⟨sm, (fun a z => nomatch z), List.nodup_nil, .sh (Sc.rp r s)⟩
theorem Rd.evI {i : Int} (h : Rd X ρ e (.int i)) : Ev X ρ e (.sh (.int i)) := h.ev trivial
theorem Rd.evB {i : Bool} (h : Rd X ρ e (.bl i)) : Ev X ρ e (.sh (.bl i)) := h.ev trivial
/-- from a rule of the layer below that gives a value that is nowhere in the heap -/
theorem Ev.of_sc {te : TE} (h : PE X e te) (s : Sc d) (k : ∀ (σ : L2.St) (H : Hp) (F G : List Addr) (Q : VK), S3 X.K G σ H ρ F → (∀ v H', Same H H' → Rp X.K H' v d → Q v H') → te σ H Q) : Ev X ρ e (.sh d) :=
  Rd.ev (fun σ H F G Q S q => best.of h (k σ H F G Q S q)) s
/-! ### names and constants -/
theorem Ev.name (i : Nat) {x : Str} (hr : ρ[i]? = some (some (.sh d))) (hN : X.N[i]? = some x) (hv : Vis X.env.scope x) (hd : (x == ("__debug__" : Str)) = false := by decide) (hcd : (x == ("__classdict__" : Str)) = false := by decide) : Ev X ρ (.Name x pos) (.sh d) := fun σ H F G Q S k => by
  obtain ⟨v, F1, F2, F3, e1, r, e2, _⟩ := S.ro.get hr
  refine best.of (pe_var hN hv hd hcd) ⟨v, e1, k v H [] ⟨.refl _, (fun a z => nomatch z), List.nodup_nil, ?_⟩⟩
  cases r with
  | sh r => exact .sh r
theorem Rd.name (i : Nat) {x : Str} (hr : ρ[i]? = some (some t)) (hN : X.N[i]? = some x) (hv : Vis X.env.scope x) (hd : (x == ("__debug__" : Str)) = false := by decide) (hcd : (x == ("__classdict__" : Str)) = false := by decide) : Rd X ρ (.Name x pos) t.er := fun σ H F G Q S k => by
  obtain ⟨v, F1, F2, F3, e1, r, e2, _⟩ := S.ro.get hr
  refine best.of (pe_var hN hv hd hcd) ⟨v, e1, k v H (.refl _) (r.rp del_le fun a _ o q => q)⟩
theorem Ev.int {i : Int} {j} : Ev X ρ (.Constant (.int i) j pos) (.sh (.int i)) := Ev.of_sc pe_int trivial fun σ H F G Q S k => k _ H (.refl _) (.int i)
theorem Ev.bl {i : Bool} {j} : Ev X ρ (.Constant (.bool i) j pos) (.sh (.bl i)) := Ev.of_sc pe_bl trivial fun σ H F G Q S k => k _ H (.refl _) (.bl i)
theorem Ev.non {j} : Ev X ρ (.Constant .none j pos) (.sh .non) := Ev.of_sc pe_non trivial fun σ H F G Q S k => k _ H (.refl _) .non
theorem Ev.str {i : Str} {j} : Ev X ρ (.Constant (.str i) j pos) (.sh (.str i)) := Ev.of_sc pe_str trivial fun σ H F G Q S k => k _ H (.refl _) (.str i)
/-- a module's number, class, function -/
theorem Ev.glob {x : Str} {v : V} {u : Value} (hg : Gl X x) (hm : X.mg x = some u) (r : RelV v u) (s : Sc d) (hv : ∀ H, Rp X.K H v d) (hd : (x == ("__debug__" : Str)) = false := by decide) : Ev X ρ (.Name x pos) (.sh d) :=
  Ev.of_sc (pe_glob hg hm r hd) s fun σ H F G Q S k => k _ H (.refl _) (hv H)
/-- a module's tuple -/
theorem Ev.globT {x : Str} {c : Addr} {vs : List V} {ds : List D} (hg : Gl X x) (hm : X.mg x = some (.ref c)) (hs : ∀ H, SqT X.K H c vs) (hv : ∀ H, Rps X.K H vs ds) (hd : (x == ("__debug__" : Str)) = false := by decide) : Ev X ρ (.Name x pos) (.sh (.tup ds)) := fun σ H F G Q S k =>
  best.of (pe_glob (v := .ref c) hg hm rfl hd) (k _ H [] ⟨.refl _, (fun a z => nomatch z), List.nodup_nil, .sh (.tup (hs _) (hv _))⟩)
/-! ### two parts -/
theorem rd2 {x y : D} (ha : Rd X ρ a x) (hb : Rd X ρ b y) {σ : L2.St} {H : Hp} {F G : List Addr} (S : S3 X.K G σ H ρ F) {R : V → V → Hp → Prop} (h : ∀ u v H2, Same H H2 → S3 X.K G σ H2 ρ F → Rp X.K H2 u x → Rp X.K H2 v y → R u v H2) :
    best X a σ H fun u H1 => best X b σ H1 fun v H2 => R u v H2 :=
  ha σ H F G _ S fun u H1 s1 r1 => hb σ H1 F G _ (S.sm s1) fun v H2 s2 r2 => h u v H2 (s1.trans s2) (S.sm (s1.trans s2)) (r1.sm s2) r2
theorem Rp.intE {K : PySem.W.Frag} {H : Hp} {v : V} {i : Int} (h : Rp K H v (.int i)) : v = .int i := by cases h; rfl
theorem Rp.blE {K : PySem.W.Frag} {H : Hp} {v : V} {i : Bool} (h : Rp K H v (.bl i)) : v = .bl i := by cases h; rfl
theorem Rp.strE {K : PySem.W.Frag} {H : Hp} {v : V} {i : Str} (h : Rp K H v (.str i)) : v = .str i := by cases h; rfl
theorem Rp.nonE {K : PySem.W.Frag} {H : Hp} {v : V} (h : Rp K H v .non) : v = .non := by cases h; rfl
/-- a + b .. of numbers -/
theorem Ev.opI {op : Operator} {C : Int → Int → Prop} {g : Int → Int → Int} (ho : OpR X (binaryOp op) (rI C fun i j => .int (g i j))) {i j : Int} (ha : Rd X ρ a (.int i)) (hb : Rd X ρ b (.int j)) (hc : C i j) : Ev X ρ (.BinOp a op b pos) (.sh (.int (g i j))) :=
  Ev.of_sc (pe_op ho pe_best pe_best) trivial fun σ H F G Q S k => rd2 ha hb S fun u v H2 s S2 r1 r2 => ⟨i, j, r1.intE, r2.intE, hc, k _ H2 s (.int _)⟩
theorem Ev.opI0 {op : Operator} {g : Int → Int → Int} (ho : OpR X (binaryOp op) (rI0 fun i j => .int (g i j))) {i j : Int} (ha : Rd X ρ a (.int i)) (hb : Rd X ρ b (.int j)) : Ev X ρ (.BinOp a op b pos) (.sh (.int (g i j))) :=
  Ev.of_sc (pe_op ho pe_best pe_best) trivial fun σ H F G Q S k => rd2 ha hb S fun u v H2 s S2 r1 r2 => ⟨i, j, r1.intE, r2.intE, k _ H2 s (.int _)⟩
theorem Ev.add {i j : Int} (ha : Rd X ρ a (.int i)) (hb : Rd X ρ b (.int j)) : Ev X ρ (.BinOp a .Add b pos) (.sh (.int (i + j))) := Ev.opI0 op_add ha hb
theorem Ev.sub {i j : Int} (ha : Rd X ρ a (.int i)) (hb : Rd X ρ b (.int j)) : Ev X ρ (.BinOp a .Sub b pos) (.sh (.int (i - j))) := Ev.opI0 op_sub ha hb
theorem Ev.mul {i j : Int} (ha : Rd X ρ a (.int i)) (hb : Rd X ρ b (.int j)) (hc : CMul i j) : Ev X ρ (.BinOp a .Mult b pos) (.sh (.int (i * j))) := Ev.opI op_mul ha hb hc
theorem Ev.fdiv {i j : Int} (ha : Rd X ρ a (.int i)) (hb : Rd X ρ b (.int j)) (hc : CDiv i j) : Ev X ρ (.BinOp a .FloorDiv b pos) (.sh (.int (i / j))) := Ev.opI op_fdiv ha hb hc
theorem Ev.mod {i j : Int} (ha : Rd X ρ a (.int i)) (hb : Rd X ρ b (.int j)) (hc : 0 < j) : Ev X ρ (.BinOp a .Mod b pos) (.sh (.int (i % j))) := Ev.opI op_mod ha hb hc
theorem Ev.pow {i j : Int} (ha : Rd X ρ a (.int i)) (hb : Rd X ρ b (.int j)) (hc : CPow i j) : Ev X ρ (.BinOp a .Pow b pos) (.sh (.int (i ^ j.toNat))) := Ev.opI op_pow ha hb hc
theorem Ev.shr {i j : Int} (ha : Rd X ρ a (.int i)) (hb : Rd X ρ b (.int j)) (hc : 0 ≤ j) : Ev X ρ (.BinOp a .RShift b pos) (.sh (.int (i / 2 ^ j.toNat))) := Ev.opI op_shr ha hb hc
theorem Ev.neg {i : Int} (ha : Rd X ρ a (.int i)) : Ev X ρ (.UnaryOp .USub a pos) (.sh (.int (-i))) :=
  Ev.of_sc (pe_un un_neg pe_best) trivial fun σ H F G Q S k => ha σ H F G _ S fun v H1 s1 r => ⟨i, r.intE, k _ H1 s1 (.int _)⟩
end
/-! ### data as the library has them -/
mutual
def py : D → PyData
  | .bl b => .bool b
  | .int i => .int i
  | .str x => .str x
  | .lst ds => .list (pys ds)
  | .tup ds => .tuple (pys ds)
  | .frT _ t => .list (t.map fun r => .list (r.map PyData.int))
  | .wit _ i => .int i
  | _ => .none
def pys : List D → List PyData
  | [] => []
  | d :: ds => py d :: pys ds
end
mutual
/-- plain data -/
def pl : D → Bool
  | .non => true
  | .bl _ => true
  | .int _ => true
  | .str x => PyData.strOk x
  | .lst ds => pls ds
  | .tup ds => pls ds
  | .frT _ _ => true
  | .wit _ _ => true
  | _ => false
def pls : List D → Bool
  | [] => true
  | d :: ds => pl d && pls ds
end
theorem ints_dp {K : PySem.W.Frag} {H : Hp} : ∀ r : List Int, DpAll K H (r.map V.int) (r.map PyData.int)
  | [] => .nil
  | x :: r => .cons (.int x) (ints_dp r)
theorem rows_dp {K : PySem.W.Frag} {H : Hp} : ∀ {vs : List V} {rs : List (List Int)}, RowsAt H vs rs → DpAll K H vs (rs.map fun r => .list (r.map PyData.int))
  | _, _, .nil => .nil
  | _, _, .cons ⟨a, e, h⟩ k => e ▸ .cons (.lst (SqL.of h) (ints_dp _)) (rows_dp k)
theorem ints_lay : ∀ r : List Int, PyData.canLayAll0 (r.map PyData.int) = true
  | [] => rfl
  | x :: r => by
    show (PyData.canLay0 (.int x) && PyData.canLayAll0 (r.map PyData.int)) = true
    rw [ints_lay r]
    rfl
theorem rows_lay : ∀ rs : List (List Int), PyData.canLayAll0 (rs.map fun r => PyData.list (r.map PyData.int)) = true
  | [] => rfl
  | r :: rs => by
    show (PyData.canLayAll0 (r.map PyData.int) && PyData.canLayAll0 (rs.map fun r => PyData.list (r.map PyData.int))) = true
    rw [ints_lay r, rows_lay rs]
    rfl
mutual
theorem Rp.dp {K : PySem.W.Frag} {H : Hp} : ∀ {v : V} {d : D}, Rp K H v d → pl d = true → Dp K H v (py d)
  | _, _, .non, _ => .non
  | _, _, .bl b, _ => .bl b
  | _, _, .int b, _ => .int b
  | _, _, .str b, _ => .str b
  | _, _, .ty b, h => nomatch h
  | _, _, .at b, h => nomatch h
  | _, _, .lst q r, h => .lst (SqL.of q) (Rps.dp r h)
  | _, _, .tup q r, h => .tup q (Rps.dp r h)
  | _, _, .obj _ _, h => nomatch h
  | _, _, .dic _ _, h => nomatch h
  | _, _, .wit _, _ => .int _
  | _, _, .dicL _ _, h => nomatch h
  | _, _, .frT _ ⟨a, vs, e, h1, h2⟩, _ => e ▸ .lst (SqL.of (hid_le _ _ h1)) (rows_dp (h2.sm hid_le))
theorem Rps.dp {K : PySem.W.Frag} {H : Hp} : ∀ {v : List V} {d : List D}, Rps K H v d → pls d = true → DpAll K H v (pys d)
  | _, _, .nil, _ => .nil
  | _, _, .cons r rs, h => by
    have h' : (pl _ && pls _) = true := h
    rw [Bool.and_eq_true] at h'
    exact .cons (Rp.dp r h'.1) (Rps.dp rs h'.2)
end
mutual
theorem pl_lay : ∀ d : D, pl d = true → (py d).canLay0 = true
  | .non, _ => rfl
  | .bl _, _ => rfl
  | .int _, _ => rfl
  | .str x, h => h
  | .lst ds, h => pls_lay ds h
  | .tup ds, h => pls_lay ds h
  | .obj _ _, h => nomatch h
  | .dic _, h => nomatch h
  | .ty _, h => nomatch h
  | .at _, h => nomatch h
  | .wit _ _, _ => rfl
  | .dicL _, h => nomatch h
  | .frT _ t, _ => rows_lay t
theorem pls_lay : ∀ ds : List D, pls ds = true → PyData.canLayAll0 (pys ds) = true
  | [], _ => rfl
  | d :: ds, h => by
    have h' : (pl d && pls ds) = true := h
    rw [Bool.and_eq_true] at h'
    show (PyData.canLay0 (py d) && PyData.canLayAll0 (pys ds)) = true
    rw [pl_lay d h'.1, pls_lay ds h'.2]
    rfl
end
/-- plain, and at most so deep -/
def Ok (n : Nat) (d : D) : Prop := pl d = true ∧ (py d).depth ≤ n
theorem Ok.shaped {n : Nat} {d : D} (h : Ok n d) (hn : n ≤ 64) : SeqAt.shaped (py d) = true := by
  unfold SeqAt.shaped
  rw [pl_lay d h.1, decide_eq_true (Nat.le_trans h.2 hn)]
  rfl
theorem Ok.mono {n m : Nat} {d : D} (h : Ok n d) (hn : n ≤ m) : Ok m d := ⟨h.1, Nat.le_trans h.2 hn⟩
theorem ok_int {i : Int} {n : Nat} : Ok n (.int i) := ⟨rfl, by show PyData.depth (.int i) ≤ n; simp [PyData.depth]⟩
theorem ok_bl {i : Bool} {n : Nat} : Ok n (.bl i) := ⟨rfl, by show PyData.depth (.bool i) ≤ n; simp [PyData.depth]⟩
theorem ok_non {n : Nat} : Ok n .non := ⟨rfl, by show PyData.depth .none ≤ n; simp [PyData.depth]⟩
theorem oks {n : Nat} : ∀ {ds : List D}, (∀ d ∈ ds, Ok n d) → pls ds = true ∧ PyData.depthAll (pys ds) ≤ n
  | [], _ => ⟨rfl, by show PyData.depthAll [] ≤ n; simp [PyData.depthAll]⟩
  | d :: ds, h => by
    obtain ⟨h1, h2⟩ := h d (List.mem_cons_self ..)
    obtain ⟨h3, h4⟩ := oks (ds := ds) fun x hx => h x (List.mem_cons_of_mem _ hx)
    refine ⟨?_, ?_⟩
    · show (pl d && pls ds) = true
      rw [h1, h3]
      rfl
    · show PyData.depthAll (py d :: pys ds) ≤ n
      simp only [PyData.depthAll]
      omega
theorem ok_lst {n : Nat} {ds : List D} (h : ∀ d ∈ ds, Ok n d) : Ok (n + 1) (.lst ds) := by
  obtain ⟨h1, h2⟩ := oks h
  refine ⟨h1, ?_⟩
  show PyData.depth (.list (pys ds)) ≤ n + 1
  simp only [PyData.depth]
  omega
theorem ok_tup {n : Nat} {ds : List D} (h : ∀ d ∈ ds, Ok n d) : Ok (n + 1) (.tup ds) := by
  obtain ⟨h1, h2⟩ := oks h
  refine ⟨h1, ?_⟩
  show PyData.depth (.tuple (pys ds)) ≤ n + 1
  simp only [PyData.depth]
  omega
theorem ok_map {α : Type} {n : Nat} {f : α → D} {xs : List α} (h : ∀ x, Ok n (f x)) : Ok (n + 1) (.lst (xs.map f)) := ok_lst fun d hd => by
  obtain ⟨x, _, rfl⟩ := List.mem_map.mp hd
  exact h x
/-- == of data -/
def eqb (x y : D) : Bool := PyData.eqv (py x) (py y)
/-! ### comparisons -/
/-- what an operator says of two data -/
def CmpD (X : Cx) (op : CmpOp) (x y : D) (b : Bool) : Prop := ∃ r : R2, OpR X (compareOp op) r ∧ ∀ (u v : V) (H : Hp) (Q : VK), Rp X.K H u x → Rp X.K H v y → Q (.bl b) H → r u v H Q
section
variable {X : Cx} {ρ : Rho} {e a b c : Expr} {es : List Expr} {t : T} {d x y z : D} {pos : Pos} {op op' : CmpOp}
theorem CmpD.lt {i j : Int} : CmpD X .Lt (.int i) (.int j) (decide (i < j)) := ⟨_, op_lt, fun u v H Q h1 h2 q => ⟨i, j, h1.intE, h2.intE, q⟩⟩
theorem CmpD.le {i j : Int} : CmpD X .LtE (.int i) (.int j) (decide (i ≤ j)) := ⟨_, op_le, fun u v H Q h1 h2 q => ⟨i, j, h1.intE, h2.intE, q⟩⟩
theorem CmpD.gt {i j : Int} : CmpD X .Gt (.int i) (.int j) (decide (j < i)) := ⟨_, op_gt, fun u v H Q h1 h2 q => ⟨i, j, h1.intE, h2.intE, q⟩⟩
theorem CmpD.ge {i j : Int} : CmpD X .GtE (.int i) (.int j) (decide (j ≤ i)) := ⟨_, op_ge, fun u v H Q h1 h2 q => ⟨i, j, h1.intE, h2.intE, q⟩⟩
theorem CmpD.eqI {i j : Int} : CmpD X .Eq (.int i) (.int j) (decide (i = j)) := ⟨_, op_eq, fun u v H Q h1 h2 q => by
  rw [h1.intE, h2.intE]
  refine ⟨rfl, ?_⟩
  rw [dec_int, Bool.beq_eq_decide_eq]
  exact q⟩
theorem CmpD.neI {i j : Int} : CmpD X .NotEq (.int i) (.int j) (!decide (i = j)) := ⟨_, op_ne, fun u v H Q h1 h2 q => by
  rw [h1.intE, h2.intE]
  refine ⟨rfl, ?_⟩
  rw [dec_int, Bool.beq_eq_decide_eq]
  exact q⟩
theorem CmpD.eq {k n m : Nat} (hr : Room k X.A) (hx : Ok n x) (hy : Ok m y) (hn : n ≤ 64 := by decide) (hm : m ≤ 64 := by decide) : CmpD X .Eq x y (eqb x y) :=
  ⟨_, op_eqD hr.units, fun u v H Q h1 h2 q => ⟨py x, py y, h1.dp hx.1, h2.dp hy.1, hx.shaped hn, hy.shaped hm, q⟩⟩
theorem CmpD.ne {k n m : Nat} (hr : Room k X.A) (hx : Ok n x) (hy : Ok m y) (hn : n ≤ 64 := by decide) (hm : m ≤ 64 := by decide) : CmpD X .NotEq x y (!eqb x y) :=
  ⟨_, op_neD hr.units, fun u v H Q h1 h2 q => ⟨py x, py y, h1.dp hx.1, h2.dp hy.1, hx.shaped hn, hy.shaped hm, q⟩⟩
theorem CmpD.inL {k n m : Nat} {ds : List D} (hr : Room (k + 1) X.A) (hx : Ok n x) (hy : Ok m (.lst ds)) (hn : n ≤ 64 := by decide) (hm : m ≤ 64 := by decide) : CmpD X .In x (.lst ds) ((pys ds).any fun z => PyData.eqv z (py x)) :=
  ⟨_, op_inD (by have := hr.un; omega), fun u v H Q h1 h2 q => ⟨py x, pys ds, h1.dp hx.1, h2.dp hy.1, hx.shaped hn, hy.shaped hm, q⟩⟩
theorem CmpD.notInL {k n m : Nat} {ds : List D} (hr : Room (k + 1) X.A) (hx : Ok n x) (hy : Ok m (.lst ds)) (hn : n ≤ 64 := by decide) (hm : m ≤ 64 := by decide) : CmpD X .NotIn x (.lst ds) (!(pys ds).any fun z => PyData.eqv z (py x)) :=
  ⟨_, op_notInD (by have := hr.un; omega), fun u v H Q h1 h2 q => ⟨py x, pys ds, h1.dp hx.1, h2.dp hy.1, hx.shaped hn, hy.shaped hm, q⟩⟩
/-- in a tuple of numbers -/
theorem Rps.ints {K : PySem.W.Frag} {H : Hp} : ∀ {ns : List Int} {vs : List V}, Rps K H vs (ns.map D.int) → vs = ns.map V.int
  | [], _, h => by cases h; rfl
  | n :: ns, _, h => by
    cases h with
    | cons h1 h2 => rw [h1.intE, Rps.ints h2]; rfl
theorem Rps.bls {K : PySem.W.Frag} {H : Hp} : ∀ {ns : List Bool} {vs : List V}, Rps K H vs (ns.map D.bl) → vs = ns.map V.bl
  | [], _, h => by cases h; rfl
  | n :: ns, _, h => by
    cases h with
    | cons h1 h2 => rw [h1.blE, Rps.bls h2]; rfl
theorem flat_ints : ∀ ns : List Int, (ns.map V.int).all flatV = true
  | [] => rfl
  | n :: ns => by rw [List.map_cons, List.all_cons, flat_ints ns]; rfl
theorem inV_ints (i : Int) : ∀ ns : List Int, inV (.int i) (ns.map V.int) = decide (i ∈ ns)
  | [] => rfl
  | n :: ns => by
    have ih := inV_ints i ns
    show ((n == i) || inV (.int i) (ns.map V.int)) = _
    rw [ih]
    by_cases h1 : n = i
    · subst h1
      rw [beq_self_eq_true, Bool.true_or, decide_eq_true (List.mem_cons_self ..)]
    · rw [beq_eq_false_iff_ne.mpr h1, Bool.false_or]
      by_cases h2 : i ∈ ns
      · rw [decide_eq_true h2, decide_eq_true (List.mem_cons_of_mem _ h2)]
      · rw [decide_eq_false h2, decide_eq_false fun z => (List.mem_cons.mp z).elim (fun e => h1 e.symm) h2]
theorem CmpD.inTI {i : Int} {ns : List Int} : CmpD X .In (.int i) (.tup (ns.map D.int)) (decide (i ∈ ns)) := ⟨_, op_in_seq, fun u v H Q h1 h2 q => by
  cases h2 with
  | tup hs hr =>
    rw [h1.intE]
    rw [hr.ints] at hs
    refine ⟨_, _, rfl, .inr hs, rfl, flat_ints ns, ?_⟩
    rw [inV_ints]
    exact q⟩
theorem CmpD.notInTI {i : Int} {ns : List Int} : CmpD X .NotIn (.int i) (.tup (ns.map D.int)) (!decide (i ∈ ns)) := ⟨_, op_notIn_seq, fun u v H Q h1 h2 q => by
  cases h2 with
  | tup hs hr =>
    rw [h1.intE]
    rw [hr.ints] at hs
    refine ⟨_, _, rfl, .inr hs, rfl, flat_ints ns, ?_⟩
    rw [inV_ints]
    exact q⟩
theorem CmpD.notInLI {i : Int} {ns : List Int} : CmpD X .NotIn (.int i) (.lst (ns.map D.int)) (!decide (i ∈ ns)) := ⟨_, op_notIn_seq, fun u v H Q h1 h2 q => by
  cases h2 with
  | lst hs hr =>
    rw [h1.intE]
    rw [hr.ints] at hs
    refine ⟨_, _, rfl, .inl (SqL.of hs), rfl, flat_ints ns, ?_⟩
    rw [inV_ints]
    exact q⟩
theorem Ev.cmp {p : Bool} (h : CmpD X op x y p) (ha : Rd X ρ a x) (hb : Rd X ρ b y) (hm : behindInMarks op b = false := by first | exact nomark _ | rfl) : Ev X ρ (.Compare a [op] [b] pos) (.sh (.bl p)) := by
  obtain ⟨r, ho, hq⟩ := h
  exact Ev.of_sc (pe_cmpR ho pe_best pe_best hm) trivial fun σ H F G Q S k => rd2 ha hb S fun u v H2 s S2 r1 r2 => hq u v H2 Q r1 r2 (k _ H2 s (.bl _))
theorem Te.cmp {p : Bool} (h : CmpD X op x y p) (ha : Rd X ρ a x) (hb : Rd X ρ b y) (hm : behindInMarks op b = false := by first | exact nomark _ | rfl) : Te X ρ (.Compare a [op] [b] pos) p := by
  obtain ⟨r, ho, hq⟩ := h
  exact fun σ H F G Q S k => bestT.of (pt_cmpR ho pe_best pe_best hm) (rd2 ha hb S fun u v H2 s S2 r1 r2 => hq u v H2 _ r1 r2 ⟨p, rfl, k H2 s⟩)
theorem chain_core {p q : Bool} {r r' : R2} {op op' : CmpOp} (hq : ∀ (u v : V) (H : Hp) (Q : VK), Rp X.K H u x → Rp X.K H v y → Q (.bl p) H → r u v H Q) (hq' : ∀ (u v : V) (H : Hp) (Q : VK), Rp X.K H u y → Rp X.K H v z → Q (.bl q) H → r' u v H Q)
    (ha : Rd X ρ a x) (hb : Rd X ρ b y) (hc : Rd X ρ c z) {σ : L2.St} {H : Hp} {F G : List Addr} {Q : VK} (S : S3 X.K G σ H ρ F) (k : ∀ H', Same H H' → Q (.bl (p && q)) H') : tChain r r' (best X a) (best X b) (best X c) σ H Q :=
  rd2 ha hb S fun u v H2 s S2 r1 r2 => hq u v H2 _ r1 r2 ⟨p, rfl, by
    cases p with
    | false =>
      rw [if_neg Bool.false_ne_true]
      exact k H2 s
    | true =>
      rw [if_pos rfl]
      exact hc σ H2 F G _ S2 fun w H3 s3 r3 => hq' v w H3 Q (r2.sm s3) r3 (k H3 (s.trans s3))⟩
theorem Ev.chain {p q : Bool} (h : CmpD X op x y p) (h' : CmpD X op' y z q) (ha : Rd X ρ a x) (hb : Rd X ρ b y) (hc : Rd X ρ c z) (hm : lastMarks [op, op'] [b, c] = false := by with_unfolding_all rfl) : Ev X ρ (.Compare a [op, op'] [b, c] pos) (.sh (.bl (p && q))) := by
  obtain ⟨r, ho, hq⟩ := h
  obtain ⟨r', ho', hq'⟩ := h'
  exact Ev.of_sc (pe_chain ho ho' pe_best pe_best pe_best hm) trivial fun σ H F G Q S k => chain_core (op := op) (op' := op') hq hq' ha hb hc S fun H' s => k _ H' s (.bl _)
theorem Te.chain {p q : Bool} (h : CmpD X op x y p) (h' : CmpD X op' y z q) (ha : Rd X ρ a x) (hb : Rd X ρ b y) (hc : Rd X ρ c z) (hm : lastMarks [op, op'] [b, c] = false := by with_unfolding_all rfl) : Te X ρ (.Compare a [op, op'] [b, c] pos) (p && q) := by
  obtain ⟨r, ho, hq⟩ := h
  obtain ⟨r', ho', hq'⟩ := h'
  exact fun σ H F G Q S k => bestT.of (pt_chain ho ho' pe_best pe_best pe_best hm) (chain_core (op := op) (op' := op') hq hq' ha hb hc S fun H' s => ⟨_, rfl, k H' s⟩)
/-- is None -/
theorem CmpD.isN : CmpD X .Is x .non (match x with | .non => true | _ => false) := ⟨_, op_isN, fun u v H Q h1 h2 q => by
  refine ⟨h2.nonE, ?_⟩
  cases h1
  case frT z =>
    obtain ⟨a, vs, e, _⟩ := z
    subst e
    exact q
  all_goals exact q⟩
theorem CmpD.notN : CmpD X .IsNot x .non (match x with | .non => false | _ => true) := ⟨_, op_notN, fun u v H Q h1 h2 q => by
  refine ⟨h2.nonE, ?_⟩
  cases h1
  case frT z =>
    obtain ⟨a, vs, e, _⟩ := z
    subst e
    exact q
  all_goals exact q⟩
/-! ### tests, and, or, not -/
theorem Te.val {p : Bool} (h : Ev X ρ e (.sh (.bl p))) (he : ∀ whole, isTrue e X.env whole = (do let v ← whole; standAt e.pos; holding [v] (truthy v)) := by intro _; rfl) : Te X ρ e p := fun σ H F G Q S k =>
  bestT.of (pt_val pe_best he) (h σ H F G _ S fun v H' E r => ⟨p, by have := r.rp; exact this.blE, k H' r.sm⟩)
theorem Te.of {p q : Bool} (h : Te X ρ e p) (e' : p = q) : Te X ρ e q := e' ▸ h
theorem Te.not {p : Bool} (h : Te X ρ a p) : Te X ρ (.UnaryOp .Not a pos) (!p) := fun σ H F G Q S k => bestT.of (pt_not pt_best) (h σ H F G _ S fun H' s => k H' s)
theorem Ev.not {p : Bool} (h : Ev X ρ a (.sh (.bl p))) : Ev X ρ (.UnaryOp .Not a pos) (.sh (.bl (!p))) :=
  Ev.of_sc (pe_not pe_best) trivial fun σ H F G Q S k => h σ H F G _ S fun v H' E r => ⟨p, by have := r.rp; exact this.blE, k _ H' r.sm (.bl _)⟩
structure bestW (X : Cx) (e : Expr) (σ : L2.St) (H : Hp) (Q : Bool → Hp → Prop) : Prop where
  run : ∀ (whole : Sem Value) (pins : List (Addr × Obj)) (s : Shared), Inv X pins σ H s → wpAny (model X.prog X.w) X.A (isTrue e X.env whole) (TP X pins σ Q) X.xe s
theorem pw_best {X : Cx} {e : Expr} : PW X e (bestW X e) := ⟨fun wh pins s σ H Q I h => h.run wh pins s I⟩
theorem bestW.of {X : Cx} {e : Expr} {t : TT} (h : PW X e t) {σ : L2.St} {H : Hp} {Q : Bool → Hp → Prop} (q : t σ H Q) : bestW X e σ H Q := ⟨fun wh pins s I => h.run wh pins s σ H Q I q⟩
/-- a chain of and, or as a test -/
def Tw (X : Cx) (ρ : Rho) (e : Expr) (b : Bool) : Prop := ∀ (σ : L2.St) (H : Hp) (F G : List Addr) (Q : Bool → Hp → Prop), S3 X.K G σ H ρ F → (∀ H', Same H H' → Q b H') → bestW X e σ H Q
theorem Tw.te {p : Bool} (h : Tw X ρ e p) : Te X ρ e p := fun σ H F G Q S k => bestT.of pw_best.pt (h σ H F G Q S k)
theorem Tw.and1 {p : Bool} (h : Te X ρ a p) : Tw X ρ (.BoolOp .And [a] pos) p := fun σ H F G Q S k => bestW.of (pw_and1 pt_best) (h σ H F G Q S k)
theorem Tw.or1 {p : Bool} (h : Te X ρ a p) : Tw X ρ (.BoolOp .Or [a] pos) p := fun σ H F G Q S k => bestW.of (pw_or1 pt_best) (h σ H F G Q S k)
theorem Tw.and {p q : Bool} {r : List Expr} (h : Te X ρ a p) (h' : p = true → Tw X ρ (.BoolOp .And (b :: r) pos) q) : Tw X ρ (.BoolOp .And (a :: b :: r) pos) (p && q) := fun σ H F G Q S k => bestW.of (pw_and pt_best pw_best) (h σ H F G _ S fun H1 s1 => by
  cases p with
  | false =>
    rw [if_neg Bool.false_ne_true]
    exact k H1 s1
  | true =>
    rw [if_pos rfl]
    exact h' rfl σ H1 F G Q (S.sm s1) fun H2 s2 => k H2 (s1.trans s2))
theorem Tw.or {p q : Bool} {r : List Expr} (h : Te X ρ a p) (h' : p = false → Tw X ρ (.BoolOp .Or (b :: r) pos) q) : Tw X ρ (.BoolOp .Or (a :: b :: r) pos) (p || q) := fun σ H F G Q S k => bestW.of (pw_or pt_best pw_best) (h σ H F G _ S fun H1 s1 => by
  cases p with
  | true =>
    rw [if_pos rfl]
    exact k H1 s1
  | false =>
    rw [if_neg Bool.false_ne_true]
    exact h' rfl σ H1 F G Q (S.sm s1) fun H2 s2 => k H2 (s1.trans s2))
theorem Ev.and1 {o : BoolOp} (h : Ev X ρ a t) : Ev X ρ (.BoolOp o [a] pos) t := fun σ H F G Q S k => best.of (pe_one pe_best) (h σ H F G Q S k)
theorem Ev.and {p q : Bool} {r : List Expr} (h : Ev X ρ a (.sh (.bl p))) (h' : p = true → Ev X ρ (.BoolOp .And (b :: r) pos) (.sh (.bl q))) : Ev X ρ (.BoolOp .And (a :: b :: r) pos) (.sh (.bl (p && q))) :=
  Ev.of_sc (pe_and pe_best pe_best) trivial fun σ H F G Q S k => h σ H F G _ S fun v H1 E r1 => ⟨p, by have := r1.rp; exact this.blE, by
    cases p with
    | false =>
      rw [if_neg Bool.false_ne_true]
      exact k _ H1 r1.sm (.bl _)
    | true =>
      rw [if_pos rfl]
      exact h' rfl σ H1 F G Q (S.sm r1.sm) fun v H2 E r2 => k v H2 (r1.sm.trans r2.sm) r2.rp⟩
theorem Ev.or {p q : Bool} {r : List Expr} (h : Ev X ρ a (.sh (.bl p))) (h' : p = false → Ev X ρ (.BoolOp .Or (b :: r) pos) (.sh (.bl q))) : Ev X ρ (.BoolOp .Or (a :: b :: r) pos) (.sh (.bl (p || q))) :=
  Ev.of_sc (pe_or pe_best pe_best) trivial fun σ H F G Q S k => h σ H F G _ S fun v H1 E r1 => ⟨p, by have := r1.rp; exact this.blE, by
    cases p with
    | true =>
      rw [if_pos rfl]
      exact k _ H1 r1.sm (.bl _)
    | false =>
      rw [if_neg Bool.false_ne_true]
      exact h' rfl σ H1 F G Q (S.sm r1.sm) fun v H2 E r2 => k v H2 (r1.sm.trans r2.sm) r2.rp⟩
theorem Ev.ifx {p : Bool} (hc : Te X ρ c p) (ha : p = true → Ev X ρ a t) (hb : p = false → Ev X ρ b t) : Ev X ρ (.IfExp c a b pos) t := fun σ H F G Q S k => best.of (pe_ifExp pt_best pe_best pe_best) (hc σ H F G _ S fun H1 s1 => by
  cases p with
  | true =>
    rw [if_pos rfl]
    exact ha rfl σ H1 F G Q (S.sm s1) fun v H2 E r => k v H2 E (r.mono s1)
  | false =>
    rw [if_neg Bool.false_ne_true]
    exact hb rfl σ H1 F G Q (S.sm s1) fun v H2 E r => k v H2 E (r.mono s1))
end
section
variable {K : PySem.W.Frag} {H H' H1 H2 : Hp} {F G N E E2 : List Addr} {σ : L2.St} {ρ : Rho} {v : V} {t : T}
/-- a new result is others' node for what follows -/
theorem S3.ext (S : S3 K G σ H ρ F) (sm : Same H H1) (fr : ∀ a ∈ E, H a = none) (nd : E.Nodup) (so : ∀ a ∈ E, ∃ o, H1 a = some o) : S3 K (E ++ G) σ H1 ρ F := by
  have hF : ∀ a ∈ E, a ∉ F ++ G := fun a ha z => by
    obtain ⟨o, e⟩ := S.fs a z
    rw [fr a ha] at e
    cases e
  refine ⟨S.ro.sm (del_new sm fun a ha => ?_) (.of sm), ?_, fun a ha => ?_⟩
  · rcases List.mem_append.mp ha with z | z
    · exact .inl (List.mem_append_left _ z)
    · rcases List.mem_append.mp z with z | z
      · exact .inr (fr a z)
      · exact .inl (List.mem_append_right _ z)
  · obtain ⟨h1, h2, h3⟩ := List.nodup_append.mp S.nd
    refine List.nodup_append.mpr ⟨h1, List.nodup_append.mpr ⟨nd, h2, fun a ha b hb e => ?_⟩, fun a ha b hb e => ?_⟩
    · subst e
      exact hF a ha (List.mem_append_right _ hb)
    · subst e
      rcases List.mem_append.mp hb with z | z
      · exact hF a z (List.mem_append_left _ ha)
      · exact h3 a ha a z rfl
  · rcases List.mem_append.mp ha with z | z
    · exact so a z
    · obtain ⟨o, q⟩ := S.gs a z
      exact ⟨o, sm _ _ q⟩
theorem mem3 {a : Addr} {A B C : List Addr} : a ∈ A ++ (B ++ C) → a ∈ B ++ (A ++ C) := fun h => by
  rcases List.mem_append.mp h with z | z
  · exact List.mem_append_right _ (List.mem_append_left _ z)
  · rcases List.mem_append.mp z with z | z
    · exact List.mem_append_left _ z
    · exact List.mem_append_right _ (List.mem_append_right _ z)
/-- two results beside one another -/
theorem ResA.cons {vs : List V} {ts : List T} (S : S3 K G σ H ρ F) (r : Res K (F ++ G) H H1 v t E) (q : ResA K (F ++ (E ++ G)) H1 H2 vs ts E2) : ResA K (F ++ G) H H2 (v :: vs) (t :: ts) (E ++ E2) := by
  refine ⟨r.sm.trans q.sm, fun a ha => ?_, ?_, ?_⟩
  · exact (List.mem_append.mp ha).elim (r.fr a) fun z => r.sm.free (q.fr a z)
  · refine List.nodup_append.mpr ⟨r.nd, q.nd, fun a ha b hb e => ?_⟩
    subst e
    obtain ⟨o, z⟩ := r.rt.fs a ha
    rw [q.fr a hb] at z
    cases z
  · refine .cons ((r.rt.keep q.sm q.fr).less (del_sub fun a ha => ?_)) (q.rt.less (del_sub fun a ha => ?_))
    · rw [List.append_assoc] at ha
      exact ha
    · rcases List.mem_append.mp ha with z | z
      · rcases List.mem_append.mp z with z | z
        · exact mem3 (List.mem_append_right _ (mem3 (List.mem_append_left _ z)))
        · exact List.mem_append_left _ z
      · rcases List.mem_append.mp z with z | z
        · exact List.mem_append_right _ (List.mem_append_left _ z)
        · exact List.mem_append_right _ (List.mem_append_right _ (List.mem_append_right _ z))
theorem ResA.freeze {vs : List V} {ts : List T} (h : ResA K N H H' vs ts E) (hn : ∀ a ∈ N, ∃ o, H a = some o) : Rps K (del N H') vs (T.ers ts) :=
  h.rt.rp (del_sub fun a ha => List.mem_append_right _ ha) fun a ha o q => (del_out fun z => by
    obtain ⟨o, e⟩ := hn a z
    rw [h.fr a ha] at e
    cases e).trans q
theorem same_upd {H : Hp} {p : Addr} {o : HO} (h : H p = none) : Same H (upd H p o) := fun b x e => by
  rw [upd_ne (ne_of_none e h)]
  exact e
theorem ResA.lst {vs : List V} {ts : List T} (h : ResA K N H H' vs ts E) {p : Addr} (hp : H' p = none) : Res K N H (upd H' p (.lst vs)) (.ref p) (.lst ts) (p :: E) := by
  refine ⟨h.sm.trans (same_upd hp), fun a ha => ?_, ?_, .lst upd_same ?_⟩
  · rcases List.mem_cons.mp ha with e | z
    · rw [e]
      exact h.sm.free hp
    · exact h.fr a z
  · refine List.nodup_cons.mpr ⟨fun z => ?_, h.nd⟩
    obtain ⟨o, e⟩ := h.rt.fs p z
    rw [hp] at e
    cases e
  · refine h.rt.sm (del_new (same_upd hp) fun a ha => ?_) (.of (same_upd hp))
    rcases List.mem_cons.mp ha with e | z
    · rw [e]
      exact .inr hp
    · exact .inl z
theorem Rps.len {vs : List V} {ds : List D} (h : Rps K H vs ds) : vs.length = ds.length := by
  induction ds generalizing vs with
  | nil => cases h; rfl
  | cons d ds ih =>
    cases h with
    | cons _ h => rw [List.length_cons, List.length_cons, ih h]
theorem RTs.len {R : Hp} : ∀ {ts : List T} {vs : List V} {F : List Addr}, RTs K R H vs ts F → vs.length = ts.length
  | [], _, _, h => by cases h; rfl
  | t :: ts, _, _, h => by
    cases h with
    | cons _ h => rw [List.length_cons, List.length_cons, RTs.len h]
theorem ers_len : ∀ ts : List T, (T.ers ts).length = ts.length
  | [] => rfl
  | t :: ts => by
    show (T.ers ts).length + 1 = ts.length + 1
    rw [ers_len ts]
theorem ers_map (f : D → T) (hf : ∀ d, (f d).er = d) : ∀ ds : List D, T.ers (ds.map f) = ds
  | [] => rfl
  | d :: ds => by
    show (f d).er :: T.ers (ds.map f) = d :: ds
    rw [hf, ers_map f hf ds]
theorem ers_sh (ds : List D) : T.ers (ds.map T.sh) = ds := ers_map _ (fun _ => rfl) ds
theorem ers_get : ∀ {ts : List T} {i : Nat} {t : T}, ts[i]? = some t → (T.ers ts)[i]? = some t.er
  | [], _, _, h => by simp at h
  | t :: ts, 0, u, h => by
    simp at h
    subst h
    rfl
  | t :: ts, i + 1, u, h => by
    show (T.ers ts)[i]? = _
    exact ers_get (by simpa using h)
theorem RTs.of_sh {R : Hp} : ∀ {ds : List D} {vs : List V}, Rps K R vs ds → RTs K R H vs (ds.map T.sh) []
  | [], _, h => by cases h; exact .nil
  | d :: ds, _, h => by
    cases h with
    | cons h1 h2 => exact RTs.cons (F := []) (G := []) (.sh h1) (RTs.of_sh h2)
theorem RTs.to_sh {R : Hp} : ∀ {ds : List D} {vs : List V} {F : List Addr}, RTs K R H vs (ds.map T.sh) F → Rps K R vs ds
  | [], _, _, h => by cases h; exact .nil
  | d :: ds, _, _, h => by
    cases h with
    | cons h1 h2 =>
      cases h1 with
      | sh h1 => exact .cons h1 (RTs.to_sh h2)
theorem Rps.get : ∀ {ds : List D} {vs : List V} {i : Nat} {d : D}, Rps K H vs ds → ds[i]? = some d → ∃ v, vs[i]? = some v ∧ Rp K H v d
  | [], _, _, _, _, h => by simp at h
  | d :: ds, _, 0, _, h, e => by
    cases h with
    | cons h1 h2 =>
      simp at e
      subst e
      exact ⟨_, rfl, h1⟩
  | d :: ds, _, i + 1, _, h, e => by
    cases h with
    | cons h1 h2 =>
      obtain ⟨v, e1, r⟩ := Rps.get h2 (i := i) (by simpa using e)
      exact ⟨v, by simpa using e1, r⟩
theorem Rps.at {ds : List D} {vs : List V} {i : Int} {d : D} (h : Rps K H vs ds) (e : atI ds i = some d) : ∃ v, atI vs i = some v ∧ Rp K H v d := by
  unfold atI at e ⊢
  rw [h.len]
  cases q : ixN ds.length i with
  | none =>
    rw [q] at e
    cases e
  | some j =>
    rw [q] at e
    exact h.get e
theorem RTs.get {R : Hp} : ∀ {ts : List T} {vs : List V} {F : List Addr} {i : Nat} {t : T}, RTs K R H vs ts F → ts[i]? = some t → ∃ v F', vs[i]? = some v ∧ (∀ a ∈ F', a ∈ F) ∧ RT K R H v t F'
  | [], _, _, _, _, _, h => by simp at h
  | t :: ts, _, _, 0, _, h, e => by
    cases h with
    | cons h1 h2 =>
      simp at e
      subst e
      exact ⟨_, _, rfl, fun a ha => List.mem_append_left _ ha, h1⟩
  | t :: ts, _, _, i + 1, _, h, e => by
    cases h with
    | cons h1 h2 =>
      obtain ⟨v, F', e1, s, r⟩ := RTs.get h2 (i := i) (by simpa using e)
      exact ⟨v, F', by simpa using e1, fun a ha => List.mem_append_right _ (s a ha), r⟩
theorem RTs.at {R : Hp} {ts : List T} {vs : List V} {F : List Addr} {i : Int} {t : T} (h : RTs K R H vs ts F) (e : atI ts i = some t) : ∃ v F', atI vs i = some v ∧ (∀ a ∈ F', a ∈ F) ∧ RT K R H v t F' := by
  unfold atI at e ⊢
  rw [h.len]
  cases q : ixN ts.length i with
  | none =>
    rw [q] at e
    cases e
  | some j =>
    rw [q] at e
    exact h.get e
/-- nothing but flat data is shared -/
inductive Own : T → Prop where
  | sh {d : D} : Sc d → Own (.sh d)
  | lst {ts : List T} : (∀ t ∈ ts, Own t) → Own (.lst ts)
  | obj {C : Addr} {fs : List (Str × T)} : (∀ q ∈ fs, Own q.2) → Own (.obj C fs)
  | regT {ts : List (List (List Int))} : Own (.regT ts)
theorem Own.rtf {R R' : Hp} : ∀ {ts : List (Str × T)} {vs : List (Str × V)} {F : List Addr}, (∀ q ∈ ts, ∀ (v : V) (F : List Addr), RT K R H v q.2 F → RT K R' H v q.2 F) → RTf K R H vs ts F → RTf K R' H vs ts F
  | [], _, _, _, h => by cases h; exact .nil
  | t :: ts, _, _, o, h => by
    cases h with
    | cons h1 h2 => exact .cons (o _ (List.mem_cons_self ..) _ _ h1) (Own.rtf (fun t ht => o t (List.mem_cons_of_mem _ ht)) h2)
theorem Own.rts {R R' : Hp} : ∀ {ts : List T} {vs : List V} {F : List Addr}, (∀ t ∈ ts, ∀ (v : V) (F : List Addr), RT K R H v t F → RT K R' H v t F) → RTs K R H vs ts F → RTs K R' H vs ts F
  | [], _, _, _, h => by cases h; exact .nil
  | t :: ts, _, _, o, h => by
    cases h with
    | cons h1 h2 => exact .cons (o t (List.mem_cons_self ..) _ _ h1) (Own.rts (fun t ht => o t (List.mem_cons_of_mem _ ht)) h2)
theorem Own.rt {R R' : Hp} {t : T} (o : Own t) : ∀ (v : V) (F : List Addr), RT K R H v t F → RT K R' H v t F := by
  induction o with
  | sh s =>
    intro v F h
    cases h with
    | sh h => exact .sh (Sc.rp h s)
  | lst _ ih =>
    intro v F h
    cases h with
    | lst h1 h2 => exact .lst h1 (Own.rts ih h2)
  | obj _ ih =>
    intro v F h
    cases h with
    | obj h1 h2 => exact .obj h1 (Own.rtf ih h2)
  | regT =>
    intro v F h
    cases h with
    | regT h1 h2 h3 => exact .regT h1 h2 h3
end
section
variable {X : Cx} {ρ : Rho} {e a b c : Expr} {es : List Expr} {t : T} {ts : List T} {d : D} {ds : List D} {pos : Pos}
theorem EvA.nil : EvA X ρ [] [] := fun σ H F G Q S k => bestA.of pa_nil (k [] H [] ⟨.refl _, (fun a z => nomatch z), List.nodup_nil, .nil⟩)
theorem EvA.cons (h : Ev X ρ e t) (h' : EvA X ρ es ts) (hs : starEach (e :: es) X.env = (false, eval e X.env) :: starEach es X.env := by rfl) : EvA X ρ (e :: es) (t :: ts) := fun σ H F G Q S k =>
  bestA.of (pa_cons pe_best pa_best hs) (h σ H F G _ S fun v H1 E r => h' σ H1 F (E ++ G) _ (S.ext r.sm r.fr r.nd r.rt.fs) fun vs H2 E2 q => k _ H2 _ (ResA.cons S r q))
theorem RdA.nil : RdA X ρ [] [] := fun σ H F G Q S k => bestA.of pa_nil (k [] H (.refl _) .nil)
theorem RdA.cons (h : Rd X ρ e d) (h' : RdA X ρ es ds) (hs : starEach (e :: es) X.env = (false, eval e X.env) :: starEach es X.env := by rfl) : RdA X ρ (e :: es) (d :: ds) := fun σ H F G Q S k =>
  bestA.of (pa_cons pe_best pa_best hs) (h σ H F G _ S fun v H1 s r => h' σ H1 F G _ (S.sm s) fun vs H2 s2 q => k _ H2 (s.trans s2) (.cons (r.sm s2) q))
theorem EvA.rd (h : EvA X ρ es ts) : RdA X ρ es (T.ers ts) := fun σ H F G Q S k => h σ H F G Q S fun v H' E r => k v H' r.sm r.rp
/-- [a, b], (a, b) -/
theorem Ev.list (h : EvA X ρ es ts) (hz : ts.length ≤ sizeLine := by first | decide | exact Nat.le_of_lt (small1000 (Nat.le_of_ble_eq_true rfl))) : Ev X ρ (.List es pos) (.lst ts) := fun σ H F G Q S k =>
  best.of (pe_lst pa_best) (h σ H F G _ S fun vs H1 E r => ⟨by rw [r.rt.len]; exact hz, fun p hp => k _ _ _ (r.lst hp)⟩)
theorem Ev.tup {x1} (h : EvA X ρ es ts) (hz : ts.length ≤ sizeLine := by first | decide | exact Nat.le_of_lt (small1000 (Nat.le_of_ble_eq_true rfl))) : Ev X ρ (.Tuple es x1 pos) (.sh (.tup (T.ers ts))) := fun σ H F G Q S k =>
  best.of (pe_tup pa_best) (h σ H F G _ S fun vs H1 E r => ⟨by rw [r.rt.len]; exact hz, fun p hp => k _ _ [] ⟨r.sm.trans (same_upd hp), (fun a z => nomatch z), List.nodup_nil, .sh (.tup (SqT.of (xs := vs) ?_) ((r.freeze S.fs).sm (del_sm (same_upd hp))))⟩⟩)
where finally
  refine (del_out fun z => ?_).trans upd_same
  obtain ⟨o, q⟩ := S.fs p z
  rw [r.sm.free hp] at q
  cases q
/-! ### paths into own nodes -/
def Pa (X : Cx) (ρ : Rho) (e : Expr) (t : T) : Prop := ∀ (σ : L2.St) (H : Hp) (F G : List Addr) (Q : VK), S3 X.K G σ H ρ F → (∀ v H' E, Same H H' → (∀ a ∈ E, a ∈ F) → RT X.K (del (F ++ G) H') H' v t E → Q v H') → best X e σ H Q
theorem Pa.name (i : Nat) {x : Str} (hr : ρ[i]? = some (some t)) (hN : X.N[i]? = some x) (hv : Vis X.env.scope x) (hd : (x == ("__debug__" : Str)) = false := by decide) (hcd : (x == ("__classdict__" : Str)) = false := by decide) : Pa X ρ (.Name x pos) t := fun σ H F G Q S k => by
  obtain ⟨v, F1, F2, F3, e1, r, e2, _⟩ := S.ro.get hr
  refine best.of (pe_var hN hv hd hcd) ⟨v, e1, k v H F2 (.refl _) (fun a ha => ?_) r⟩
  rw [e2]
  exact List.mem_append_right _ (List.mem_append_left _ ha)
theorem Pa.rd (h : Pa X ρ e t) : Rd X ρ e t.er := fun σ H F G Q S k => h σ H F G Q S fun v H' E s _ r => k v H' s (r.rp del_le fun a _ o q => q)
theorem Pa.ev (h : Pa X ρ e (.sh d)) : Ev X ρ e (.sh d) := fun σ H F G Q S k => h σ H F G Q S fun v H' E s _ r => by
  cases r with
  | sh r => exact k v H' [] ⟨s, (fun a z => nomatch z), List.nodup_nil, .sh r⟩
theorem Ev.pa (h : Ev X ρ e (.sh d)) : Pa X ρ e (.sh d) := fun σ H F G Q S k => h σ H F G Q S fun v H' E r => by
  have := r.rt
  cases this with
  | sh q => exact k v H' [] r.sm (fun a z => nomatch z) (.sh q)
/-- xs[i] -/
theorem Pa.ix {i : Int} (h : Pa X ρ a (.lst ts)) (hb : Rd X ρ b (.int i)) (q : atI ts i = some t) (hs : PlainIx b := by intro _ _; rfl) : Pa X ρ (.Subscript a b pos) t := fun σ H F G Q S k =>
  best.of (pe_ix ix_list pe_best pe_best hs) (h σ H F G _ S fun v H1 E s1 hE r1 => hb σ H1 F G _ (S.sm s1) fun w H2 s2 r2 => by
    cases r1 with
    | lst h1 h2 =>
      obtain ⟨u, F', e, sub, r⟩ := h2.at q
      refine ⟨_, _, i, u, rfl, r2.intE, SqL.of (s2 _ _ h1), e, k u H2 F' (s1.trans s2) (fun a ha => hE a (List.mem_cons_of_mem _ (sub a ha))) ?_⟩
      exact r.sm (del_sm s2) (.of s2))
theorem Rd.ix {i : Int} (h : Rd X ρ a (.lst ds)) (hb : Rd X ρ b (.int i)) (q : atI ds i = some d) (hs : PlainIx b := by intro _ _; rfl) : Rd X ρ (.Subscript a b pos) d := fun σ H F G Q S k =>
  best.of (pe_ix ix_list pe_best pe_best hs) (rd2 h hb S fun u v H2 s S2 r1 r2 => by
    cases r1 with
    | lst h1 h2 =>
      obtain ⟨u, e, r⟩ := h2.at q
      exact ⟨_, _, i, u, rfl, r2.intE, SqL.of h1, e, k u H2 s r⟩)
theorem Rd.ixT {i : Int} (h : Rd X ρ a (.tup ds)) (hb : Rd X ρ b (.int i)) (q : atI ds i = some d) (hs : PlainIx b := by intro _ _; rfl) : Rd X ρ (.Subscript a b pos) d := fun σ H F G Q S k =>
  best.of (pe_ix ix_tup pe_best pe_best hs) (rd2 h hb S fun u v H2 s S2 r1 r2 => by
    cases r1 with
    | tup h1 h2 =>
      obtain ⟨u, e, r⟩ := h2.at q
      exact ⟨_, _, i, u, rfl, r2.intE, h1, e, k u H2 s r⟩)
theorem Ev.ix {i : Int} (h : Ev X ρ a (.sh (.lst ds))) (hb : Rd X ρ b (.int i)) (q : atI ds i = some d) (hs : PlainIx b := by intro _ _; rfl) : Ev X ρ (.Subscript a b pos) (.sh d) := fun σ H F G Q S k =>
  best.of (pe_ix ix_list pe_best pe_best hs) (h σ H F G _ S fun v H1 E r1 => hb σ H1 F G _ (S.sm r1.sm) fun w H2 s2 r2 => by
    have r1' := r1.rt
    cases r1' with
    | sh r1' =>
      cases r1' with
      | lst h1 h2 =>
        obtain ⟨u, e, r⟩ := h2.at q
        exact ⟨_, _, i, u, rfl, r2.intE, SqL.of (s2 _ _ (del_some h1).2), e, k u H2 [] ⟨r1.sm.trans s2, (fun a z => nomatch z), List.nodup_nil, .sh (r.sm (del_sm s2))⟩⟩)
theorem Ev.ixT {i : Int} (h : Ev X ρ a (.sh (.tup ds))) (hb : Rd X ρ b (.int i)) (q : atI ds i = some d) (hs : PlainIx b := by intro _ _; rfl) : Ev X ρ (.Subscript a b pos) (.sh d) := fun σ H F G Q S k =>
  best.of (pe_ix ix_tup pe_best pe_best hs) (h σ H F G _ S fun v H1 E r1 => hb σ H1 F G _ (S.sm r1.sm) fun w H2 s2 r2 => by
    have r1' := r1.rt
    cases r1' with
    | sh r1' =>
      cases r1' with
      | tup h1 h2 =>
        obtain ⟨u, e, r⟩ := h2.at q
        exact ⟨_, _, i, u, rfl, r2.intE, SqT.sm (del_le.trans s2) h1, e, k u H2 [] ⟨r1.sm.trans s2, (fun a z => nomatch z), List.nodup_nil, .sh (r.sm (del_sm s2))⟩⟩)
/-! ### lists whose items are shared -/
def Ls (X : Cx) (ρ : Rho) (e : Expr) (ds : List D) : Prop := ∀ (σ : L2.St) (H : Hp) (F G : List Addr) (Q : VK), S3 X.K G σ H ρ F → (∀ p vs H', Same H H' → H' p = some (.lst vs) → Rps X.K (del (F ++ G) H') vs ds → Q (.ref p) H') → best X e σ H Q
theorem Ev.ls (h : Ev X ρ e (.lst ts)) : Ls X ρ e (T.ers ts) := fun σ H F G Q S k => h σ H F G Q S fun v H' E r => by
  have q := r.freeze S.fs
  have q' := q.rt
  cases q' with
  | sh q' =>
    cases q' with
    | lst h1 h2 => exact k _ _ H' r.sm (del_some h1).2 h2
theorem Ev.lsS (h : Ev X ρ e (.sh (.lst ds))) : Ls X ρ e ds := fun σ H F G Q S k => h σ H F G Q S fun v H' E r => by
  have q' := r.rt
  cases q' with
  | sh q' =>
    cases q' with
    | lst h1 h2 => exact k _ _ H' r.sm (del_some h1).2 h2
theorem Pa.ls (h : Pa X ρ e (.lst (ds.map T.sh))) : Ls X ρ e ds := fun σ H F G Q S k => h σ H F G Q S fun v H' E s hE r => by
  cases r with
  | lst h1 h2 => exact k _ _ H' s h1 h2.to_sh
theorem Scs.rps {K : PySem.W.Frag} {H H' : Hp} : ∀ {ds : List D} {vs : List V}, Rps K H vs ds → (∀ d ∈ ds, Sc d) → Rps K H' vs ds
  | [], _, h, _ => by cases h; exact .nil
  | d :: ds, _, h, s => by
    cases h with
    | cons h1 h2 => exact .cons (Sc.rp h1 (s d (List.mem_cons_self ..))) (Scs.rps h2 fun x hx => s x (List.mem_cons_of_mem _ hx))
theorem Rd.ls (h : Rd X ρ e (.lst ds)) (s : ∀ d ∈ ds, Sc d) : Ls X ρ e ds := fun σ H F G Q S k => h σ H F G Q S fun v H' sm r => by
  cases r with
  | lst h1 h2 => exact k _ _ H' sm h1 (Scs.rps h2 s)
theorem Rd.lsI {ns : List Int} (h : Rd X ρ e (.lst (ns.map D.int))) : Ls X ρ e (ns.map D.int) := h.ls fun d hd => by
  obtain ⟨n, _, rfl⟩ := List.mem_map.mp hd
  exact True.intro
theorem Ls.rd (h : Ls X ρ e ds) : Rd X ρ e (.lst ds) := fun σ H F G Q S k => h σ H F G Q S fun p vs H' s e r => k _ H' s (.lst e (r.sm del_le))
/-- a new list of shared items -/
theorem new_sh {K : PySem.W.Frag} {G F : List Addr} {σ : L2.St} {H H' : Hp} (S : S3 K G σ H ρ F) (s : Same H H') {vs : List V} (r : Rps K (del (F ++ G) H') vs ds) {p : Addr} (hp : H' p = none) : Res K (F ++ G) H (upd H' p (.lst vs)) (.ref p) (.lst (ds.map T.sh)) [p] :=
  ResA.lst (E := []) ⟨s, (fun a z => nomatch z), List.nodup_nil, RTs.of_sh r⟩ hp
theorem Rps.app {K : PySem.W.Frag} {H : Hp} : ∀ {ds es : List D} {vs ws : List V}, Rps K H vs ds → Rps K H ws es → Rps K H (vs ++ ws) (ds ++ es)
  | [], _, _, _, h, h' => by cases h; exact h'
  | d :: ds, _, _, _, h, h' => by
    cases h with
    | cons h1 h2 => exact .cons h1 (Rps.app h2 h')
theorem Rps.take {K : PySem.W.Frag} {H : Hp} : ∀ {ds : List D} {vs : List V} (n : Nat), Rps K H vs ds → Rps K H (vs.take n) (ds.take n)
  | _, _, 0, _ => by rw [List.take_zero, List.take_zero]; exact .nil
  | [], _, n + 1, h => by cases h; exact .nil
  | d :: ds, _, n + 1, h => by
    cases h with
    | cons h1 h2 => exact .cons h1 (Rps.take n h2)
theorem Rps.drop {K : PySem.W.Frag} {H : Hp} : ∀ {ds : List D} {vs : List V} (n : Nat), Rps K H vs ds → Rps K H (vs.drop n) (ds.drop n)
  | _, _, 0, h => h
  | [], _, n + 1, h => by cases h; exact .nil
  | d :: ds, _, n + 1, h => by
    cases h with
    | cons h1 h2 => exact Rps.drop n h2
theorem Rps.rep {K : PySem.W.Frag} {H : Hp} {ds : List D} {vs : List V} (h : Rps K H vs ds) : ∀ n : Nat, Rps K H (List.replicate n vs).flatten (List.replicate n ds).flatten
  | 0 => .nil
  | n + 1 => by
    rw [List.replicate_succ, List.replicate_succ, List.flatten_cons, List.flatten_cons]
    exact h.app (Rps.rep h n)
theorem Ev.cat {es : List D} (h : Ls X ρ a ds) (h' : Ls X ρ b es) (hz : ds.length + es.length ≤ sizeLine) : Ev X ρ (.BinOp a .Add b pos) (.lst ((ds ++ es).map T.sh)) := fun σ H F G Q S k =>
  best.of (pe_op op_cat pe_best pe_best) (h σ H F G _ S fun p vs H1 s1 e1 r1 => h' σ H1 F G _ (S.sm s1) fun q ws H2 s2 e2 r2 =>
    ⟨p, q, vs, ws, rfl, rfl, s2 _ _ e1, e2, by rw [r1.len, r2.len]; exact hz, fun o ho => k _ _ _ (new_sh S (s1.trans s2) ((r1.sm (del_sm s2)).app r2) ho)⟩)
theorem Ev.rep {i : Int} (h : Ls X ρ a ds) (h' : Rd X ρ b (.int i)) (h1 : -(2 ^ 63) ≤ i) (h2 : i < 2 ^ 63) (hz : ds.length * i.toNat ≤ sizeLine) : Ev X ρ (.BinOp a .Mult b pos) (.lst ((List.replicate i.toNat ds).flatten.map T.sh)) := fun σ H F G Q S k =>
  best.of (pe_op op_rep pe_best pe_best) (h σ H F G _ S fun p vs H1 s1 e1 r1 => h' σ H1 F G _ (S.sm s1) fun q H2 s2 r2 =>
    ⟨p, i, vs, rfl, r2.intE, s2 _ _ e1, h1, h2, by rw [r1.len]; exact hz, fun o ho => k _ _ _ (new_sh S (s1.trans s2) ((r1.sm (del_sm s2)).rep _) ho)⟩)
/-- xs[lo:hi] -/
def Pt (X : Cx) (ρ : Rho) (e : Option Expr) (o : Option Int) : Prop := match e, o with
  | none, none => True
  | some e, some i => Rd X ρ e (.int i)
  | _, _ => False
def cutD (xs : List D) (lo hi : Option Int) : List D := (xs.drop (HT.sIx xs.length 0 lo)).take (HT.sIx xs.length xs.length hi - HT.sIx xs.length 0 lo)
theorem po_best {e : Expr} : PO X (some e) (tPart (best X e)) := po_some pe_best
theorem Ev.cutLH {lo hi : Expr} {i j : Int} {p2 : Pos} (h : Ls X ρ a ds) (hl : Rd X ρ lo (.int i)) (hh : Rd X ρ hi (.int j)) : Ev X ρ (.Subscript a (.Slice (some lo) (some hi) none p2) pos) (.lst ((cutD ds (some i) (some j)).map T.sh)) := fun σ H F G Q S k =>
  best.of (pe_slice sl_list pe_best po_best po_best) (h σ H F G _ S fun p vs H1 s1 e1 r1 => hl σ H1 F G _ (S.sm s1) fun q H2 s2 r2 => ⟨i, r2.intE, hh σ H2 F G _ (S.sm (s1.trans s2)) fun q H3 s3 r3 => ⟨j, r3.intE,
    p, vs, rfl, SqL.of (s3 _ _ (s2 _ _ e1)), fun o ho => k _ _ _ (new_sh S (s1.trans (s2.trans s3)) (by
      unfold cutV
      rw [r1.len]
      exact Rps.take _ (Rps.drop _ (r1.sm (del_sm (s2.trans s3))))) ho)⟩⟩)
theorem Ev.cutL {lo : Expr} {i : Int} {p2 : Pos} (h : Ls X ρ a ds) (hl : Rd X ρ lo (.int i)) : Ev X ρ (.Subscript a (.Slice (some lo) none none p2) pos) (.lst ((cutD ds (some i) none).map T.sh)) := fun σ H F G Q S k =>
  best.of (pe_slice sl_list pe_best po_best po_none) (h σ H F G _ S fun p vs H1 s1 e1 r1 => hl σ H1 F G _ (S.sm s1) fun q H2 s2 r2 => ⟨i, r2.intE,
    p, vs, rfl, SqL.of (s2 _ _ e1), fun o ho => k _ _ _ (new_sh S (s1.trans s2) (by
      unfold cutV
      rw [r1.len]
      exact Rps.take _ (Rps.drop _ (r1.sm (del_sm s2)))) ho)⟩)
theorem Ev.cutH {hi : Expr} {i : Int} {p2 : Pos} (h : Ls X ρ a ds) (hl : Rd X ρ hi (.int i)) : Ev X ρ (.Subscript a (.Slice none (some hi) none p2) pos) (.lst ((cutD ds none (some i)).map T.sh)) := fun σ H F G Q S k =>
  best.of (pe_slice sl_list pe_best po_none po_best) (h σ H F G _ S fun p vs H1 s1 e1 r1 => hl σ H1 F G _ (S.sm s1) fun q H2 s2 r2 => ⟨i, r2.intE,
    p, vs, rfl, SqL.of (s2 _ _ e1), fun o ho => k _ _ _ (new_sh S (s1.trans s2) (by
      unfold cutV
      rw [r1.len]
      exact Rps.take _ (Rps.drop _ (r1.sm (del_sm s2)))) ho)⟩)
end
/-! ### defs called where no text of a list is under way -/
/-- as FnOk, where nothing guards -/
structure FnG (P : Program) (w : World) (K : PySem.W.Frag) (mg : Str → Option Value) (base : Heap) (C : CXT) (k : Nat) (f : Addr) (fd : FuncData) (ps : List Str) (sp : Sp) : Prop where
  n : ∀ zs H Q E, sp zs H Q E → zs.length = ps.length
  go : ∀ {A : Around} {o : List Env} {s : Shared} {H : Hp} {as : Args} {us : List Value} {zs : List V} {Q : VK} {E : XK}, A.guards = some [] → Room k A → Env0 P w K mg base A o s H → BindsTo s fd as (ps.zip us) → Vals zs us → sp zs H Q E → codeAny (model P w) A (.call (.ref f) as) (CR C o P w H s Q E) s
section
variable {P : Program} {w : World} {K : PySem.W.Frag} {mg : Str → Option Value} {base : Heap} {C : CXT} {k : Nat} {f : Addr} {fd : FuncData} {ps : List Str} {sp : Sp}
/-- a call's end is the body's -/
theorem cr_end {N : List Str} {qual : Str} {sc : Scope} {cd : Value} {A : Around} {o : List Env} {s s2 : Shared} {H : Hp} {Q : VK} {E : XK} : ∀ {r : Flow}, SP (cxOf C P w K mg base N qual sc f cd A o s H E) [] { nx := fun _ H' => Q .non H', rt := Q } r s2 →
    CR C o P w H s Q E (.ok (.ret (match r with | .ret u => u | _ => .none))) s2
  | .ret u, ⟨v, _, H2, J, rv, q⟩ => ⟨v, H2, J.os, J.bare, J.base, J.hok, rv, q⟩
  | .next, ⟨_, H2, J, q⟩ => ⟨.non, H2, J.os, J.bare, J.base, J.hok, rfl, q⟩
  | .brk, ⟨_, _, _, q⟩ => q.elim
  | .cont, ⟨_, _, _, q⟩ => q.elim
/-- a def by its body -/
theorem FnG.of {x qual : Str} {st : Stmt} {N : List Str} (F : Fun K x qual st f fd) (S : FnScope N ps (defScope st)) (n : ∀ zs H Q E, sp zs H Q E → zs.length = ps.length)
    (b : ∀ (cd : Value) (A : Around) (o : List Env) (s : Shared) (H : Hp) (zs : List V) (Q : VK) (E : XK), A.guards = some [] → Room k (A.deeper (envOfC qual (defScope st) s.heap.objs.size f cd)) → sp zs H Q E →
      ∃ t, PSs (cxOf C P w K mg base N qual (defScope st) f cd A o s H E) (defBody st) t ∧ t { nx := fun _ H' => Q .non H', rt := Q } (L2.start N zs) H) : FnG P w K mg base C (k + 1) f fd ps sp := by
  obtain ⟨oc, od, kV, doc, pm, an, cd, ct, sl, rfl, lk, hc⟩ := F.ex
  refine ⟨n, fun {A o s H as us zs Q E} gd hr e0 hb r h => ?_⟩
  have up : ∀ b x, base.get? b = some x → s.heap.get? b = some x := fun b x e => (e0.bs b x e).1
  have KX : K.In s.heap := e0.mod.kin.keeps up
  have kinds : ∀ y ∈ ps.zip us, (defScope st).names.lookup y.1 = some .local ∨ ((defScope st).names.lookup y.1 = some .cell ∧ ((cellsFrom (s.heap.objs.size + 1) (defScope st).names []).lookup y.1).isSome = true) := fun ⟨y, z⟩ hy =>
    (S.par y (List.of_mem_zip hy).1).elim .inl fun q => .inr ⟨q, PySem.W.cellsFrom_some _ _ _ (.inl q)⟩
  refine codeAny_call_function hr.depth (KX _ _ lk) rfl S.co S.gen rfl (PySem.W.codeRec_of KX hc) (hb _ _ _ _ (wpAny_newFunctionEnv_cells S.kind kinds fun env he s1 x => ?_))
  subst he
  obtain ⟨t, ht, hq⟩ := b cd A o s H zs Q E gd (hr.deeper _) h
  exact ⟨(e0.mod.nolimit.keeps up).keeps x.toInCall.keep, codeAny_func (wpAny_mono (ht.run [] s1 _ H _ (inv_start S hr.hd e0 (n _ _ _ _ h) r x) hq) (fun _ _ z => cr_end z) fun _ _ z => z)⟩
/-- no exception leaves it -/
theorem FnG.of0 {x qual : Str} {st : Stmt} {N : List Str} (F : Fun K x qual st f fd) (S : FnScope N ps (defScope st)) (n : ∀ zs H Q E, sp zs H Q E → zs.length = ps.length)
    (b : ∀ (cd : Value) (A : Around) (o : List Env) (s : Shared) (H : Hp) (zs : List V) (Q : VK) (E : XK), A.guards = some [] → Room k (A.deeper (envOfC qual (defScope st) s.heap.objs.size f cd)) → sp zs H Q E →
      ∃ t, PSs (cxOf CX0 P w K mg base N qual (defScope st) f cd A o s H E).nox (defBody st) t ∧ t { nx := fun _ H' => Q .non H', rt := Q } (L2.start N zs) H) : FnG P w K mg base CX0 (k + 1) f fd ps sp :=
  FnG.of F S n fun cd A o s H zs Q E gd hr h => (b cd A o s H zs Q E gd hr h).elim fun t q => ⟨t, q.1.nox, q.2⟩
theorem FnG.imp {sp' : Sp} (F : FnG P w K mg base C k f fd ps sp) (h : ∀ zs H Q E, sp' zs H Q E → sp zs H Q E) : FnG P w K mg base C k f fd ps sp' := ⟨fun zs H Q E q => F.n _ _ _ _ (h _ _ _ _ q), fun gd hr e0 hb r q => F.go gd hr e0 hb r (h _ _ _ _ q)⟩
/-- a def of the kit's own kind -/
theorem FnG.ofK (F : FnOk P w K mg base C k f fd ps sp) : FnG P w K mg base C k f fd ps sp := ⟨F.len, fun {A o s H as us zs Q E} _ hr e0 hb r h => F.run A o s H as us zs Q E hr e0 hb r h⟩
end
section
variable {X : Cx} {C : CXT} {k : Nat} {f c : Addr} {fd : FuncData} {ps : List Str} {sp : Sp} {E : XK} {x m : Str} {p pos apos : Pos} {e o : Expr} {es : List Expr} {te : TE} {t : TA} {pins : List (Addr × Obj)} {σ : L2.St} {H : Hp} {s : Shared} {Q : VK} {us : List Value} {zs : List V}
theorem FnG.run (F : FnG X.prog X.w X.K X.mg X.base C k f fd ps sp) (gd : X.A.guards = some []) (hr : Room k X.A) (hb : Binds X.K fd ps []) (hx : Passes C X E) (I : Inv X pins σ H s) (r : Vals zs us) (h : sp zs H Q E) : wpAny (model X.prog X.w) X.A (call (.ref f) us) (EP X pins σ Q) X.xe s := by
  have l : (us ++ []).length = ps.length := by rw [List.append_nil, ← r.length, F.n _ _ _ _ h]
  have hb' := hb s us I.kIn l
  rw [List.append_nil] at hb'
  refine wpAny_call (codeAny_mono (F.go gd hr I.env0 hb' r h) fun z s2 q => ?_)
  match z, q with
  | .error e, q => exact hx pins σ H s e s2 I q
  | .ok (.ret u), q => exact I.after q
  | .ok .next, q => exact q.elim
  | .ok .brk, q => exact q.elim
  | .ok .cont, q => exact q.elim
/-- f(..) -/
theorem pe_callG (F : FnG X.prog X.w X.K X.mg X.base C k f fd ps sp) (gd : X.A.guards = some []) (hr : Room k X.A) (hg : Gl X x) (hm : X.mg x = some (.ref f)) (hk : PySem.W.keepIn X.K (.ref f) = true) (hb : Binds X.K fd ps []) (hx : Passes C X E) (ha : PA X (e :: es) t) (hd : (x == ("__debug__" : Str)) = false)
    (he : starEach (e :: es) X.env = (false, eval e X.env) :: starEach es X.env) (hp : (backTo pos (starEach es X.env)).any (·.1) = false) : PE X (.Call (.Name x p) (e :: es) [] pos) fun σ H Q => t σ H fun vs H1 => sp vs H1 Q E :=
  ⟨fun pins s σ H Q I h => wpAny_Call_Name_kw (ld_glob I hg hm (PySem.W.callWith_K (h₀ := X.base) I.ok.mod.kin hk (thn (ha.run pos pins s σ H _ I h) fun us s1 ⟨zs, H1, I1, r, q⟩ => ⟨I1.kIn, F.run gd hr hb hx I1 r q⟩) he hp) hd)⟩
/-- o.m(..) -/
theorem pe_methG {pl : Sem Bool} (ho : PE X o te) (cl : Cls X.K c) (hm : Meth X.K c m f) (F : FnG X.prog X.w X.K X.mg X.base C k f fd ps sp) (gd : X.A.guards = some []) (hr : Room k X.A) (hb : Binds X.K fd ps []) (hx : Passes C X E) (ha : PA X (e :: es) t)
    (he : starEach (e :: es) X.env = (false, eval e X.env) :: starEach es X.env) (hp : (backTo pos (starEach es X.env)).any (·.1) = false)
    (ht : eval (.Call (.Attribute o m apos) (e :: es) [] pos) X.env = (eval o X.env).bind fun ov => (standAt apos.atName).bind fun _ => (holding [ov] (getMethod ov m pl)).bind fun q => callWith pos q.1 q.2 (backTo pos (starEach (e :: es) X.env)) (backToKw pos (keywordEach [] X.env))) :
    PE X (.Call (.Attribute o m apos) (e :: es) [] pos) fun σ H Q => te σ H fun v H1 => ∃ a dx fs, v = .ref a ∧ H1 a = some (.ins c dx fs) ∧ fs.lookup m = none ∧ t σ H1 fun vs H2 => sp (v :: vs) H2 Q E :=
  ⟨fun pins s σ H Q I h => PySem.W.methodCall_KW (pl := pl) (thn (ho.run pins s σ H _ I h) fun u s1 ⟨v, H1, I1, rv, a, dx, fs, ev, ea, l, q⟩ => by
    cases ev
    cases rv
    exact getmeth_ok I1 ea cl hm l (PySem.W.callWith_K (first := [.ref a]) (h₀ := X.base) I.ok.mod.kin hm.kp (thn (ha.run pos pins s1 σ H1 _ I1 q) fun us s2 ⟨zs, H2, I2, r, q2⟩ => ⟨I2.kIn, F.run (us := .ref a :: us) (zs := .ref a :: zs) gd hr hb hx I2 (.cons (show RelV (V.ref a) (.ref a) from rfl) r) q2⟩) he hp)) ht⟩
theorem make_guards {A : Around} {us : List Value} : (A.under (.builtin "type.__call__" ⟨.ref c :: us, []⟩)).guards = A.guards := by
  simp only [Around.under, Code.guards, Code.isGuard, guardIds, pushGuards]
  cases A.guards <;> rfl
/-- C(..) -/
theorem pe_makeG (M : Mk X.K c f) (F : FnG X.prog X.w X.K X.mg X.base C k f fd ps sp) (gd : X.A.guards = some []) (hr : Room (k + 1) X.A) (hg : Gl X x) (hm : X.mg x = some (.ref c)) (hb : Binds X.K fd ps []) (hx : Passes C X E) (ha : PA X (e :: es) t) (hd : (x == ("__debug__" : Str)) = false)
    (he : starEach (e :: es) X.env = (false, eval e X.env) :: starEach es X.env) (hp : (backTo pos (starEach es X.env)).any (·.1) = false) : PE X (.Call (.Name x p) (e :: es) [] pos) fun σ H Q => t σ H fun vs H1 => ∀ a dx, H1 a = none → H1 dx = none → dx ≠ a →
      sp (.ref a :: vs) (upd (upd H1 dx (.own a)) a (.ins c dx [])) (fun v H2 => v = .non ∧ Q (.ref a) H2) E := by
  refine ⟨fun pins s σ H Q I h => wpAny_Call_Name_kw (ld_glob I hg hm (PySem.W.callWith_K (h₀ := X.base) I.ok.mod.kin M.kp (thn (ha.run pos pins s σ H _ I h) fun us s1 ⟨zs, H1, I1, r, q⟩ => ⟨I1.kIn, ?_⟩) he hp) hd)⟩
  have z := s1.heap.objs.size
  have h1 := q (s1.heap.objs.size + 1) s1.heap.objs.size (I1.hok.fresh (Nat.le_add_right _ 1)) (I1.hok.fresh (Nat.le_refl _)) (Nat.ne_of_lt (Nat.lt_succ_self _))
  have J := Inv.made (C := c) I1
  have rr : Vals (.ref (s1.heap.objs.size + 1) :: zs) (.ref (s1.heap.objs.size + 1) :: us) := .cons rfl r
  have l : ((Value.ref (s1.heap.objs.size + 1) :: us) ++ []).length = ps.length := by rw [List.append_nil, ← rr.length, F.n _ _ _ _ h1]
  have hb' := hb _ (.ref (s1.heap.objs.size + 1) :: us) J.kIn l
  rw [List.append_nil] at hb'
  refine wpAny_call (make_map (f := f) I1.kIn M.makes M.init (beq_iff_eq.mp M.fn) (codeAny_mono (F.go (make_guards.trans gd) (hr.make c us []) (J.env0.make c us []) hb' rr h1) fun y s2 q2 => ?_))
  match y, q2 with
  | .error e, q2 => exact hx pins σ _ _ e s2 J q2
  | .ok .next, q2 => exact q2.elim
  | .ok .brk, q2 => exact q2.elim
  | .ok .cont, q2 => exact q2.elim
  | .ok (.ret u), q2 =>
    obtain ⟨v, H', I3, rv, ev, q3⟩ := J.after q2
    cases ev
    exact ⟨rv, .ref (s1.heap.objs.size + 1), H', I3, rfl, q3⟩
end
/-! ### the law's own call -/
section
variable {P : Program} {w : World} {K : PySem.W.Frag} {mg mb : Str → Option Value} {k : Nat} {fa a : Addr} {fd : FuncData} {x : Str} {sp : Sp} {s : Shared} {vs : List Value} {ns : List Int}
/-- where at most the script is tracked -/
theorem law_core (KX : K.In s.heap) (G : s.heap.Ns mainGlobals mg) (B : s.heap.Ns builtinsNs mb) (B2 : ∀ y : Str, y ≠ "__name__" → mb y = bootBuiltins y) (L : s.heap.NoLimit) (g0 : s.gens = #[]) (ha : s.heap.get? a = some { cls := .type "list", data := .seq vs.toArray }) (hr : Room k callerA)
    (F : ∀ base : Heap, K.In base → base.Ns mainGlobals mg → FnG P w K mg base CX0 k fa fd [x] sp) (hb : ∀ (z : Shared) (u : Value), BindsTo z fd ⟨[u], []⟩ [(x, u)]) {H : Hp} (hA : ∀ b u, H b = some u → b = a ∧ K.lookup a = none ∧ u = .frz { cls := .type "list", data := .seq vs.toArray } (.lst (ns.map V.int)))
    (hok : HOk P w H s.heap) (h : sp [.ref a] H (fun v _ => v = .bl true) E0) : codeAny (model P w) callerA (.call (.ref fa) ⟨[.ref a], []⟩) (fun r z => r = .ok (.ret (.bool true)) ∧ OldK s.heap z.heap ∧ z.os = s.os ∧ AllBare z.gens) s := by
  have free : ∀ {b : Addr} {o : Obj}, s.heap.get? b = some o → (∀ its n, o.data ≠ .seq its n) ∨ K.lookup b = some o → H b = none := fun {b o} e d => by
    cases q : H b with
    | none => rfl
    | some u =>
      obtain ⟨e1, e2, _⟩ := hA b u q
      rw [e1] at e d
      rcases d with d | d
      · rw [ha] at e
        cases e
        exact absurd rfl (d _ _)
      · rw [e2] at d
        cases d
  have ns' : ∀ {b : Addr} {m : Str → Option Value}, s.heap.Ns b m → (hidT s.heap H).Ns b m := fun {b m} ⟨o, es, ep, e, d, r⟩ => ⟨o, es, ep, hidT_get e (free e (.inl fun _ _ z => by rw [d] at z; cases z)), d, r⟩
  have K' : K.In (hidT s.heap H) := fun b o e => hidT_get (KX b o e) (free (KX b o e) (.inr e))
  obtain ⟨mc, c1, c2⟩ := L
  have M : Mod K mg (hidT s.heap H) := ⟨K', ns' G, ⟨mb, ns' B, B2⟩, mc, ns' c1, c2⟩
  have nil : ∀ {b : Addr}, b ∉ ([] : List Addr) := fun z => nomatch z
  have e0 : Env0 P w K mg (hidT s.heap H) callerA [] s H := ⟨rfl, M, fun b o e => of_hidT e, Nat.le_of_eq (hidT_size _ _), trivial, fun b z => absurd z nil, hok, .of_eq g0⟩
  refine codeAny_mono (FnG.go (F _ K' (ns' G)) (us := [.ref a]) rfl hr e0 (hb s (.ref a)) (.cons (show RelV (V.ref a) (.ref a) from rfl) .nil) h) fun r z q => ?_
  match r, q with
  | .error e, q => exact q.elim
  | .ok .next, q => exact q.elim
  | .ok .brk, q => exact q.elim
  | .ok .cont, q => exact q.elim
  | .ok (.ret u), q =>
    obtain ⟨v, H2, os, bare, un, ok2, rv, ev⟩ := q
    have ev : v = .bl true := ev
    subst ev
    have eu : u = .bool true := rv
    subst eu
    refine ⟨rfl, OldK.of_keep fun b o e => ?_, os, bare⟩
    cases y : H b with
    | none => exact un.keep b o e y nil nil
    | some t =>
      obtain ⟨rfl, _, rfl⟩ := hA b t y
      have e2 := (ok2 b _ (un.frzs b _ _ y)).1
      rw [ha] at e
      cases e
      exact e2
theorem law_go (KX : K.In s.heap) (G : s.heap.Ns mainGlobals mg) (B : s.heap.Ns builtinsNs mb) (B2 : ∀ y : Str, y ≠ "__name__" → mb y = bootBuiltins y) (L : s.heap.NoLimit) (g0 : s.gens = #[]) (ha : s.heap.get? a = some { cls := .type "list", data := .seq vs.toArray }) (hi : IntsAre vs ns) (hl : ns.length ≤ sizeLine) (hr : Room k callerA)
    (F : ∀ base : Heap, K.In base → base.Ns mainGlobals mg → FnG P w K mg base CX0 k fa fd [x] sp) (hb : ∀ (z : Shared) (u : Value), BindsTo z fd ⟨[u], []⟩ [(x, u)]) (hs : ∀ H : Hp, SqL K H a (ns.map V.int) → sp [.ref a] H (fun v _ => v = .bl true) E0) :
    codeAny (model P w) callerA (.call (.ref fa) ⟨[.ref a], []⟩) (fun r z => r = .ok (.ret (.bool true)) ∧ OldK s.heap z.heap ∧ z.os = s.os ∧ AllBare z.gens) s := by
  have rv := vals_ints hi
  cases hk : K.lookup a with
  | some o =>
    have e := KX a o hk
    rw [ha] at e
    cases e
    exact law_core (ns := ns) (H := fun _ => none) KX G B B2 L g0 ha hr F hb (fun b u z => nomatch z) (fun b u z => nomatch z) (hs _ (.inr ⟨_, vs.toArray, _, hk, rfl, rfl, rfl, by rw [List.size_toArray, hi.length]; exact hl, by simpa using rv⟩))
  | none =>
    have key : ∀ b u, (if b = a then some (HO.frz { cls := .type "list", data := .seq vs.toArray } (.lst (ns.map V.int))) else none) = some u → b = a ∧ K.lookup a = none ∧ u = .frz { cls := .type "list", data := .seq vs.toArray } (.lst (ns.map V.int)) := fun b u z => by
      by_cases e : b = a
      · rw [if_pos e] at z
        cases z
        exact ⟨e, hk, rfl⟩
      · rw [if_neg e] at z
        cases z
    refine law_core (H := fun b => if b = a then some (HO.frz { cls := .type "list", data := .seq vs.toArray } (.lst (ns.map V.int))) else none) KX G B B2 L g0 ha hr F hb key (fun b u z => ?_) (hs _ (.inl (.inr ⟨{ cls := .type "list", data := .seq vs.toArray }, if_pos rfl⟩)))
    obtain ⟨rfl, _, rfl⟩ := key b u z
    exact ⟨ha, by rw [List.length_map]; exact hl, vs, _, rv, ha⟩
end
/-- the goal behind the head -/
theorem walkG {l : PySem.W.OpenLaw} {n k : Nat} {q : Program} {loose : List Str} {XP : (Str → Option Value) → Heap → Prop} {YP : World → Heap → Prop} {d : DefRec} {K : Params → PySem.W.Frag} {sp : World → Sp} {x : Str} (hn : l.most = some n) (hz : n ≤ sizeLine) (hd : d.params.defaults = []) (hr : Room k callerA) (hY : ∀ (w : World) (h : Heap), YP w h → (K w.params).In h)
    (F : ∀ (w : World) (mg : Str → Option Value) (fa : Addr) (h : Heap), (K w.params).In h → h.Ns mainGlobals mg → mg d.name = some (.ref fa) → ∃ fd : FuncData, (∀ (s : Shared) (u : Value), BindsTo s fd ⟨[u], []⟩ [(x, u)]) ∧ ∀ base : Heap, (K w.params).In base → base.Ns mainGlobals mg → FnG l.prog w (K w.params) mg base CX0 k fa fd [x] (sp w))
    (hs : ∀ (w : World) (H : Hp) (a : Addr) (ns : List Int), ns.length ≤ n → SqL (K w.params) H a (ns.map V.int) → sp w [.ref a] H (fun v _ => v = .bl true) E0) : PySem.W.WalkO q loose XP YP l.row.toRowW d [] (fun f vs => PySem.call f vs) :=
  Att.attach_call hn hd fun w s₀ s₁ mg mb fa o pm cd doc a vs ns G Y ho hdd hcd hmg hobj hi hlen hg => by
    have KX := hY w _ Y
    obtain ⟨fd, hb, hF⟩ := F w mg fa _ KX G.T.g hmg
    exact law_go KX G.T.g G.T.b G.T.builtins G.T.nolimit hg hobj hi (Nat.le_trans hlen hz) hr hF hb fun H hS => hs w H a ns hlen hS
/-- the module -/
structure Md where
  P : Program
  w : World
  K : PySem.W.Frag
  mg : Str → Option Value
  base : Heap
/-- where a body runs: its names, their kinds, the room -/
structure XF (M : Md) (N : List Str) (sc : Scope) (fc : Str → Bool) (k : Nat) (X : Cx) : Prop where
  p : X.prog = M.P
  w : X.w = M.w
  K : X.K = M.K
  m : X.mg = M.mg
  b : X.base = M.base
  n : X.N = N
  s : X.env.scope = sc
  nd : N.Nodup
  calm : X.calm = true
  fn : X.fn = fc
  room : Room k X.A
  xe : X.xe = fun _ _ => False
  gd : X.A.guards = some []
def visB (sc : Scope) (x : Str) : Bool := (match sc.names.lookup x with | some .local => true | some .cell => true | some .free => true | _ => false) && !(x == ("__debug__" : Str)) && !(x == ("__classdict__" : Str))
def glB (sc : Scope) (x : Str) : Bool := (match sc.names.lookup x with | some .globalImplicit => true | _ => false) && !(x == ("__debug__" : Str))
def locB (sc : Scope) (fc : Str → Bool) (x : Str) : Bool := match sc.names.lookup x with | some .local => true | some .cell => fc x | _ => false
theorem visB_ok {sc : Scope} {x : Str} (h : visB sc x = true) : Vis sc x ∧ (x == ("__debug__" : Str)) = false ∧ (x == ("__classdict__" : Str)) = false := by
  unfold visB at h
  rw [Bool.and_eq_true, Bool.and_eq_true] at h
  obtain ⟨⟨h1, h2⟩, h3⟩ := h
  refine ⟨?_, by simpa using h2, by simpa using h3⟩
  unfold Vis
  split at h1 <;> first | exact .inl (by assumption) | exact .inr (.inl (by assumption)) | exact .inr (.inr (by assumption)) | cases h1
section
variable {M : Md} {N : List Str} {sc : Scope} {fc : Str → Bool} {k : Nat} {X : Cx} {ρ : Rho} {e a b c : Expr} {es : List Expr} {t : T} {ts : List T} {d : D} {ds : List D} {pos p : Pos} {x : Str}
theorem XF.gl (hX : XF M N sc fc k X) (h : glB sc x = true) : Gl X x ∧ (x == ("__debug__" : Str)) = false := by
  unfold glB at h
  rw [Bool.and_eq_true] at h
  obtain ⟨h1, h2⟩ := h
  refine ⟨?_, by simpa using h2⟩
  show X.env.scope.names.lookup x = _
  rw [hX.s]
  split at h1 <;> first | assumption | cases h1
theorem XF.loc (hX : XF M N sc fc k X) (h : locB sc fc x = true) : L2.Loc X.env.scope x ∧ (X.fn x = true ∨ X.env.scope.names.lookup x = some .local) := by
  unfold locB at h
  unfold L2.Loc
  rw [hX.s, hX.fn]
  split at h
  · rename_i e
    exact ⟨.inl e, .inr e⟩
  · rename_i e
    exact ⟨.inr e, .inl h⟩
  · cases h
theorem XF.hp (hX : XF M N sc fc k X) : PassesOwn (model X.prog X.w) X.A X.env X.xe := by
  rw [hX.xe]
  exact PassesOwn.never
theorem XF.pg (hX : XF M N sc fc k X) (i : Nat) (hN : N[i]? = some x) (h : locB sc fc x = true) : PG X (.Name x pos) (gName i) := by
  obtain ⟨h1, h2⟩ := hX.loc h
  exact pg_name (by rw [hX.n]; exact hX.nd) (by rw [hX.n]; exact hN) h1 h2
/-- names -/
theorem nm (hX : XF M N sc fc k X) (i : Nat) (hr : ρ[i]? = some (some (.sh d)) := by rfl) (hN : N[i]? = some x := by rfl) (hv : visB sc x = true := by decide +kernel) : Ev X ρ (.Name x pos) (.sh d) := by
  obtain ⟨h1, h2, h3⟩ := visB_ok hv
  exact Ev.name i hr (by rw [hX.n]; exact hN) (by rw [hX.s]; exact h1) h2 h3
theorem nmR (hX : XF M N sc fc k X) (i : Nat) (hr : ρ[i]? = some (some t) := by rfl) (hN : N[i]? = some x := by rfl) (hv : visB sc x = true := by decide +kernel) : Rd X ρ (.Name x pos) t.er := by
  obtain ⟨h1, h2, h3⟩ := visB_ok hv
  exact Rd.name i hr (by rw [hX.n]; exact hN) (by rw [hX.s]; exact h1) h2 h3
theorem nmP (hX : XF M N sc fc k X) (i : Nat) (hr : ρ[i]? = some (some t) := by rfl) (hN : N[i]? = some x := by rfl) (hv : visB sc x = true := by decide +kernel) : Pa X ρ (.Name x pos) t := by
  obtain ⟨h1, h2, h3⟩ := visB_ok hv
  exact Pa.name i hr (by rw [hX.n]; exact hN) (by rw [hX.s]; exact h1) h2 h3
/-! ### calls of built-in functions -/
theorem callB {id : String} {r : List V → Hp → VK → Prop} (hX : XF M N sc fc k X) (hc : CallR X (.builtin id) r) (hg : glB sc x = true) (hm : M.mg x = none) (hv : bootBuiltins x = some (.builtin id)) (hn : x ≠ "__name__") (s : Sc d)
    (ha : RdA X ρ (e :: es) ds) (q : ∀ vs H Q, Rps X.K H vs ds → (∀ v, Rp X.K H v d → Q v H) → r vs H Q)
    (he : starEach (e :: es) X.env = (false, eval e X.env) :: starEach es X.env := by rfl) (hpl : (backTo pos (starEach es X.env)).any (·.1) = false := by rfl) : Ev X ρ (.Call (.Name x p) (e :: es) [] pos) (.sh d) := by
  obtain ⟨h1, h2⟩ := hX.gl hg
  exact Ev.of_sc (pe_callB hc h1 (by rw [hX.m]; exact hm) hv pa_best hn h2 he hpl) s fun σ H F G Q S k => ha σ H F G _ S fun vs H' sm r => q vs H' Q r fun v rv => k v H' sm rv
theorem callTy {id : String} {r : List V → Hp → VK → Prop} (hX : XF M N sc fc k X) (hc : CallR X (.type id) r) (hg : glB sc x = true) (hm : M.mg x = none) (hv : bootBuiltins x = some (.type id)) (hn : x ≠ "__name__") (s : Sc d)
    (ha : RdA X ρ (e :: es) ds) (q : ∀ vs H Q, Rps X.K H vs ds → (∀ v, Rp X.K H v d → Q v H) → r vs H Q)
    (he : starEach (e :: es) X.env = (false, eval e X.env) :: starEach es X.env := by rfl) (hpl : (backTo pos (starEach es X.env)).any (·.1) = false := by rfl) : Ev X ρ (.Call (.Name x p) (e :: es) [] pos) (.sh d) := by
  obtain ⟨h1, h2⟩ := hX.gl hg
  exact Ev.of_sc (pe_callTy hc h1 (by rw [hX.m]; exact hm) hv pa_best hn h2 he hpl) s fun σ H F G Q S k => ha σ H F G _ S fun vs H' sm r => q vs H' Q r fun v rv => k v H' sm rv
theorem RdA.one (h : Rd X ρ e d) (hs : starEach (e :: []) X.env = (false, eval e X.env) :: starEach [] X.env := by rfl) : RdA X ρ [e] [d] := .cons h .nil hs
theorem Rps.one {K : PySem.W.Frag} {H : Hp} {vs : List V} (h : Rps K H vs [d]) : ∃ v, vs = [v] ∧ Rp K H v d := by
  cases h with
  | cons h1 h2 =>
    cases h2
    exact ⟨_, rfl, h1⟩
theorem Rps.two {K : PySem.W.Frag} {H : Hp} {vs : List V} {d' : D} (h : Rps K H vs [d, d']) : ∃ v w, vs = [v, w] ∧ Rp K H v d ∧ Rp K H w d' := by
  cases h with
  | cons h1 h2 =>
    obtain ⟨w, rfl, r⟩ := h2.one
    exact ⟨_, _, rfl, h1, r⟩
theorem e_len (hX : XF M N sc fc k X) (hm : M.mg "len" = none) (ha : Rd X ρ e (.lst ds)) (hs : starEach (e :: []) X.env = (false, eval e X.env) :: starEach [] X.env := by rfl) (hg : glB sc "len" = true := by decide +kernel) : Ev X ρ (.Call (.Name "len" p) [e] [] pos) (.sh (.int ds.length)) :=
  callB hX call_len_seq hg hm PySem.boot_len (by decide) trivial (.one ha hs) (fun vs H Q r q => by
    obtain ⟨v, rfl, r'⟩ := r.one
    cases r' with
    | lst h1 h2 => exact ⟨_, _, rfl, .inl (SqL.of h1), by rw [h2.len]; exact q _ (.int _)⟩) hs
theorem e_lenT (hX : XF M N sc fc k X) (hm : M.mg "len" = none) (ha : Rd X ρ e (.tup ds)) (hs : starEach (e :: []) X.env = (false, eval e X.env) :: starEach [] X.env := by rfl) (hg : glB sc "len" = true := by decide +kernel) : Ev X ρ (.Call (.Name "len" p) [e] [] pos) (.sh (.int ds.length)) :=
  callB hX call_len_seq hg hm PySem.boot_len (by decide) trivial (.one ha hs) (fun vs H Q r q => by
    obtain ⟨v, rfl, r'⟩ := r.one
    cases r' with
    | tup h1 h2 => exact ⟨_, _, rfl, .inr h1, by rw [h2.len]; exact q _ (.int _)⟩) hs
theorem e_sum {ns : List Int} (hX : XF M N sc fc k X) (hm : M.mg "sum" = none) (ha : Rd X ρ e (.lst (ns.map D.int))) (hs : starEach (e :: []) X.env = (false, eval e X.env) :: starEach [] X.env := by rfl) (hg : glB sc "sum" = true := by decide +kernel) : Ev X ρ (.Call (.Name "sum" p) [e] [] pos) (.sh (.int ns.sum)) :=
  callB hX (cr_sum hX.calm) hg hm PyProof.Rows.boot_sum (by decide) trivial (.one ha hs) (fun vs H Q r q => by
    obtain ⟨v, rfl, r'⟩ := r.one
    cases r' with
    | lst h1 h2 =>
      rw [h2.ints] at h1
      exact ⟨_, ns, rfl, SqL.of h1, q _ (.int _)⟩) hs
theorem boot_all : bootBuiltins "all" = some (.builtin "all") := by decide +kernel
theorem boot_any : bootBuiltins "any" = some (.builtin "any") := by decide +kernel
theorem e_all {bs : List Bool} (hX : XF M N sc fc k X) (hm : M.mg "all" = none) (ha : Rd X ρ e (.lst (bs.map D.bl))) (hs : starEach (e :: []) X.env = (false, eval e X.env) :: starEach [] X.env := by rfl) (hg : glB sc "all" = true := by decide +kernel) : Ev X ρ (.Call (.Name "all" p) [e] [] pos) (.sh (.bl (bs.all id))) :=
  callB hX (cr_all hX.calm) hg hm boot_all (by decide) trivial (.one ha hs) (fun vs H Q r q => by
    obtain ⟨v, rfl, r'⟩ := r.one
    cases r' with
    | lst h1 h2 =>
      rw [h2.bls] at h1
      exact ⟨_, bs, rfl, SqL.of h1, q _ (.bl _)⟩) hs
theorem e_any {bs : List Bool} (hX : XF M N sc fc k X) (hm : M.mg "any" = none) (ha : Rd X ρ e (.lst (bs.map D.bl))) (hs : starEach (e :: []) X.env = (false, eval e X.env) :: starEach [] X.env := by rfl) (hg : glB sc "any" = true := by decide +kernel) : Ev X ρ (.Call (.Name "any" p) [e] [] pos) (.sh (.bl (bs.any id))) :=
  callB hX (cr_any hX.calm) hg hm boot_any (by decide) trivial (.one ha hs) (fun vs H Q r q => by
    obtain ⟨v, rfl, r'⟩ := r.one
    cases r' with
    | lst h1 h2 =>
      rw [h2.bls] at h1
      exact ⟨_, bs, rfl, SqL.of h1, q _ (.bl _)⟩) hs
theorem e_intB {q : Bool} (hX : XF M N sc fc k X) (hm : M.mg "int" = none) (ha : Rd X ρ e (.bl q)) (hs : starEach (e :: []) X.env = (false, eval e X.env) :: starEach [] X.env := by rfl) (hg : glB sc "int" = true := by decide +kernel) : Ev X ρ (.Call (.Name "int" p) [e] [] pos) (.sh (.int (if q then 1 else 0))) :=
  callTy hX call_int1 hg hm PyProof.Rows.boot_int (by decide) trivial (.one ha hs) (fun vs H Q r z => by
    obtain ⟨v, rfl, r'⟩ := r.one
    rw [r'.blE]
    exact .inr ⟨q, rfl, z _ (.int _)⟩) hs
theorem e_min2 {i j : Int} (hX : XF M N sc fc k X) (hm : M.mg "min" = none) (ha : Rd X ρ a (.int i)) (hb : Rd X ρ b (.int j)) (hs : starEach (a :: [b]) X.env = (false, eval a X.env) :: starEach [b] X.env := by rfl) (hs2 : starEach (b :: []) X.env = (false, eval b X.env) :: starEach [] X.env := by rfl)
    (hpl : (backTo pos (starEach [b] X.env)).any (·.1) = false := by rfl) (hg : glB sc "min" = true := by decide +kernel) : Ev X ρ (.Call (.Name "min" p) [a, b] [] pos) (.sh (.int (if j < i then j else i))) :=
  callB hX (call_min2 hX.calm) hg hm PyProof.Rows.boot_min (by decide) trivial (.cons ha (.one hb hs2) hs) (fun vs H Q r q => by
    obtain ⟨v, w, rfl, r1, r2⟩ := r.two
    rw [r1.intE, r2.intE]
    exact ⟨i, j, rfl, q _ (.int _)⟩) hs hpl
theorem e_max2 {i j : Int} (hX : XF M N sc fc k X) (hm : M.mg "max" = none) (ha : Rd X ρ a (.int i)) (hb : Rd X ρ b (.int j)) (hs : starEach (a :: [b]) X.env = (false, eval a X.env) :: starEach [b] X.env := by rfl) (hs2 : starEach (b :: []) X.env = (false, eval b X.env) :: starEach [] X.env := by rfl)
    (hpl : (backTo pos (starEach [b] X.env)).any (·.1) = false := by rfl) (hg : glB sc "max" = true := by decide +kernel) : Ev X ρ (.Call (.Name "max" p) [a, b] [] pos) (.sh (.int (if j > i then j else i))) :=
  callB hX (call_max2 hX.calm) hg hm PyProof.Rows.boot_max (by decide) trivial (.cons ha (.one hb hs2) hs) (fun vs H Q r q => by
    obtain ⟨v, w, rfl, r1, r2⟩ := r.two
    rw [r1.intE, r2.intE]
    exact ⟨i, j, rfl, q _ (.int _)⟩) hs hpl
/-- list(xs) -/
theorem e_listOf (hX : XF M N sc fc k X) (hm : M.mg "list" = none) (ha : Ls X ρ e ds) (hs : starEach (e :: []) X.env = (false, eval e X.env) :: starEach [] X.env := by rfl) (hg : glB sc "list" = true := by decide +kernel) : Ev X ρ (.Call (.Name "list" p) [e] [] pos) (.lst (ds.map T.sh)) := by
  obtain ⟨h1, h2⟩ := hX.gl hg
  exact fun σ H F G Q S k => best.of (pe_callTy call_list_of h1 (by rw [hX.m]; exact hm) PyProof.Rows.boot_list (pa_cons pe_best pa_nil hs) (by decide) h2 hs rfl)
    (ha σ H F G _ S fun q vs H' sm e r => ⟨q, vs, rfl, .inl (SqL.of e), fun l hl => k _ _ _ (new_sh S sm r hl)⟩)
/-! ### calls of defs -/
/-- the contract: on data ds it gives a tree t -/
def sp3 (K : PySem.W.Frag) (g : List D → T → Prop) : Sp := fun vs H Q _ => ∃ (ds : List D) (t : T) (G : List Addr), Rps K (del G H) vs ds ∧ (∀ a ∈ G, ∃ o, H a = some o) ∧ G.Nodup ∧ g ds t ∧ ∀ v H' E, Res K G H H' v t E → Q v H'
/-- a def of the module keeps its contract -/
def DefOk (M : Md) (k : Nat) (x : Str) (g : List D → T → Prop) : Prop := ∃ (f : Addr) (fd : FuncData) (ps : List Str), FnG M.P M.w M.K M.mg M.base CX0 k f fd ps (sp3 M.K g) ∧ M.mg x = some (.ref f) ∧ PySem.W.keepIn M.K (.ref f) = true ∧ Binds M.K fd ps []
theorem DefOk.pe {j : Nat} {g : List D → T → Prop} (hX : XF M N sc fc k X) (hF : DefOk M j x g) (hj : j ≤ k) (hg : glB sc x = true) (he : starEach (e :: es) X.env = (false, eval e X.env) :: starEach es X.env) (hpl : (backTo pos (starEach es X.env)).any (·.1) = false) :
    PE X (.Call (.Name x p) (e :: es) [] pos) (fun σ H Q => bestA X (e :: es) σ H fun vs H1 => sp3 X.K g vs H1 Q E0) := by
  obtain ⟨f, fd, ps, F, hm, hk, hb⟩ := hF
  obtain ⟨h1, h2⟩ := hX.gl hg
  obtain ⟨pP, pw, pK, pm, pb, _, _, _, _, _, room, _, gd⟩ := hX
  cases M
  simp only at pP pw pK pm pb F hm hk hb
  subst pP pw pK pm pb
  exact pe_callG F gd (room.mono hj) h1 hm hk hb pass0 pa_best h2 he hpl
/-- the arguments' nodes are shared from then on -/
theorem Ev.call {j : Nat} {g : List D → T → Prop} (hX : XF M N sc fc k X) (hF : DefOk M j x g) (ha : EvA X ρ (e :: es) ts) (q : g (T.ers ts) t) (hj : j ≤ k := by decide) (hg : glB sc x = true := by decide +kernel)
    (he : starEach (e :: es) X.env = (false, eval e X.env) :: starEach es X.env := by rfl) (hpl : (backTo pos (starEach es X.env)).any (·.1) = false := by rfl) : Ev X ρ (.Call (.Name x p) (e :: es) [] pos) t := fun σ H F G Q S k =>
  best.of (hF.pe hX hj hg he hpl) (ha σ H F G _ S fun vs H1 E r => by
    show sp3 X.K g vs H1 Q E0
    exact ⟨T.ers ts, t, F ++ G, r.freeze S.fs, fun a ha => (S.sm r.sm).fs a ha, S.nd, q, fun v H' E2 z => k v H' E2 (z.mono r.sm)⟩)
/-- own nodes are only looked at, what comes is new -/
theorem Ev.callR {j : Nat} {g : List D → T → Prop} (hX : XF M N sc fc k X) (hF : DefOk M j x g) (ha : RdA X ρ (e :: es) ds) (q : g ds t) (ho : Own t) (hj : j ≤ k := by decide) (hg : glB sc x = true := by decide +kernel)
    (he : starEach (e :: es) X.env = (false, eval e X.env) :: starEach es X.env := by rfl) (hpl : (backTo pos (starEach es X.env)).any (·.1) = false := by rfl) : Ev X ρ (.Call (.Name x p) (e :: es) [] pos) t := fun σ H F G Q S k =>
  best.of (hF.pe hX hj hg he hpl) (ha σ H F G _ S fun vs H1 sm r => by
    show sp3 X.K g vs H1 Q E0
    exact ⟨ds, t, [], by rw [del_nil]; exact r, (fun a ha => nomatch ha), List.nodup_nil, q, fun v H' E2 z => k v H' E2 ⟨sm.trans z.sm, fun a ha => sm.free (z.fr a ha), z.nd, ho.rt _ _ z.rt⟩⟩)
/-! ### targets -/
inductive Tg where
  | one (i : Nat) | tup (is : List Nat)
def gNames : List Nat → TGs
  | [] => gNil
  | i :: is => gCons (gName i) (gNames is)
def Tg.g (K : PySem.W.Frag) : Tg → TG
  | .one i => gName i
  | .tup is => gTup K is.length (gNames is)
def setAll : List Nat → List D → Rho → Rho
  | i :: is, d :: ds, ρ => setAll is ds (ρ.set i (some (.sh d)))
  | _, _, ρ => ρ
def Tg.asg : Tg → D → Rho → Rho
  | .one i, d, ρ => ρ.set i (some (.sh d))
  | .tup is, .tup ds, ρ => setAll is ds ρ
  | _, _, ρ => ρ
def Tg.ok : Tg → D → Bool
  | .one _, _ => true
  | .tup is, .tup ds => decide (is.length = ds.length)
  | _, _ => false
def Tg.is : Tg → List Nat
  | .one i => [i]
  | .tup is => is
/-- the slot bears no own node -/
def fre (ρ : Rho) (i : Nat) : Bool := match ρ[i]? with
  | some (some (.sh _)) => true
  | some (some _) => false
  | _ => true
theorem RO.setS {K : PySem.W.Frag} {R H : Hp} {σ : L2.St} {F : List Addr} {v : V} (r : Rp K R v d) : ∀ {ρ : Rho} {σ : L2.St} {F : List Addr} (i : Nat), RO K R H σ ρ F → fre ρ i = true → RO K R H (σ.set i (some v)) (ρ.set i (some (.sh d))) F := by
  intro ρ σ F i h
  induction h generalizing i with
  | nil => intro _; exact .nil
  | @no o σ ρ G h ih =>
    intro f
    cases i with
    | zero => exact RO.yes (F := []) (.sh r) h
    | succ i => exact .no (ih i f)
  | @yes v t σ ρ F G rt h ih =>
    intro f
    cases i with
    | zero =>
      have f' : fre (some t :: ρ) 0 = true := f
      cases rt with
      | sh _ => exact RO.yes (F := []) (.sh r) h
      | lst _ _ => cases f'
      | obj _ _ => cases f'
      | dic _ _ => cases f'
      | regT _ _ _ => cases f'
    | succ i => exact .yes rt (ih i f)
theorem fre_set {ρ : Rho} {i j : Nat} (h : fre ρ j = true) : fre (ρ.set i (some (.sh d))) j = true := by
  unfold fre
  by_cases e : i = j
  · subst e
    by_cases l : i < ρ.length
    · rw [List.getElem?_set_self l]
    · rw [List.getElem?_eq_none (by rw [List.length_set]; omega)]
  · rw [List.getElem?_set_ne e]
    exact h
theorem S3.setS {K : PySem.W.Frag} {G F : List Addr} {H : Hp} {σ : L2.St} {v : V} (S : S3 K G σ H ρ F) (r : Rp K (del (F ++ G) H) v d) (i : Nat) (f : fre ρ i = true) : S3 K G (σ.set i (some v)) H (ρ.set i (some (.sh d))) F :=
  ⟨RO.setS (σ := σ) (F := F) r i S.ro f, S.nd, S.gs⟩
theorem wipe_set {v : Option V} : ∀ {vs : List Nat} {σ : L2.St} {i : Nat}, i ∈ vs → wipe (σ.set i v) vs = wipe σ vs
  | [], _, _, h => nomatch h
  | j :: vs, σ, i, h => by
    show (wipe (σ.set i v) vs).set j none = (wipe σ vs).set j none
    by_cases e : i ∈ vs
    · rw [wipe_set e]
    · have e' : i = j := (List.mem_cons.mp h).resolve_right e
      subst e'
      have : ∀ {vs : List Nat} {σ : L2.St}, i ∉ vs → wipe (σ.set i v) vs = (wipe σ vs).set i v := by
        intro vs
        induction vs with
        | nil => intro σ _; rfl
        | cons j vs ih =>
          intro σ hn
          show (wipe (σ.set i v) vs).set j none = ((wipe σ vs).set j none).set i v
          rw [ih fun z => hn (List.mem_cons_of_mem _ z)]
          exact List.set_comm _ _ fun z => hn (z ▸ List.mem_cons_self ..)
      rw [this e, List.set_set]
theorem gNames_run {K : PySem.W.Frag} {G F : List Addr} {H : Hp} {ws : List Nat} {Q : L2.St → Hp → Prop} : ∀ {is : List Nat} {ds : List D} {vs : List V} {ρ : Rho} {σ : L2.St}, is.length = ds.length → Rps K (del (F ++ G) H) vs ds → (∀ i ∈ is, fre ρ i = true) → S3 K G σ H ρ F →
    (∀ σ', S3 K G σ' H (setAll is ds ρ) F → ((∀ i ∈ is, i ∈ ws) → wipe σ' ws = wipe σ ws) → Q σ' H) → gNames is vs σ H Q
  | [], [], _, ρ, σ, _, h, _, S, q => by
    cases h
    exact ⟨rfl, q σ S fun _ => rfl⟩
  | i :: is, d :: ds, _, ρ, σ, l, h, f, S, q => by
    cases h with
    | cons h1 h2 =>
      refine ⟨_, _, rfl, gNames_run (ws := ws) (ds := ds) (by simpa using l) h2 (fun j hj => fre_set (f j (List.mem_cons_of_mem _ hj))) (S.setS h1 i (f i (List.mem_cons_self ..))) fun σ' S' w => q σ' S' fun hw => ?_⟩
      rw [w fun j hj => hw j (List.mem_cons_of_mem _ hj)]
      exact wipe_set (hw i (List.mem_cons_self ..))
  | [], _ :: _, _, _, _, l, _, _, _, _ => by simp at l
  | _ :: _, [], _, _, _, l, _, _, _, _ => by simp at l
theorem Tg.run {K : PySem.W.Frag} {G F : List Addr} {H : Hp} {σ : L2.St} {v : V} (tg : Tg) (ws : List Nat) {Q : L2.St → Hp → Prop} (S : S3 K G σ H ρ F) (r : Rp K (del (F ++ G) H) v d) (ok : tg.ok d = true) (f : ∀ i ∈ tg.is, fre ρ i = true)
    (q : ∀ σ', S3 K G σ' H (tg.asg d ρ) F → ((∀ i ∈ tg.is, i ∈ ws) → wipe σ' ws = wipe σ ws) → Q σ' H) : tg.g K v σ H Q := by
  cases tg with
  | one i => exact q _ (S.setS r i (f i (List.mem_cons_self ..))) fun hw => wipe_set (hw i (List.mem_cons_self ..))
  | tup is =>
    cases r with
    | @tup a vs ds h1 h2 =>
      have l : is.length = ds.length := of_decide_eq_true ok
      exact ⟨a, vs, rfl, SqT.sm del_le h1, by rw [h2.len]; exact l.symm, gNames_run l h2 f S q⟩
    | _ => cases ok
end
/-! ### what is walked -/
structure Jsp (K : PySem.W.Frag) (J : It) (ds : List D) (H : Hp) (N : List Addr) : Prop where
  go : ∀ i d, ds[i]? = some d → J.go i H ∧ ∀ x H', J.yld i H x H' → Same H H' ∧ Rp K (del N H') x d
  stop : J.stop ds.length H
/-- for a comprehension: nothing that stands is changed -/
def ItC (X : Cx) (ρ : Rho) (tg iter : Expr) (ds : List D) : Prop := ∃ wi : TI, PI X tg iter wi ∧ ∀ (σ : L2.St) (H : Hp) (F G : List Addr) (R : It → Hp → Prop), S3 X.K G σ H ρ F →
  (∀ J H1, Same H H1 → (∀ H2 N2, Same H1 H2 → Same (del (F ++ G) H1) (del N2 H2) → (∀ a ∈ N2, ∃ o, H2 a = some o) → Jsp X.K J ds H2 N2) → R J H1) → wi σ H R
/-- for a loop: what is shared is not changed -/
def ItF (X : Cx) (ρ : Rho) (tg iter : Expr) (ds : List D) : Prop := ∃ wi : TI, PI X tg iter wi ∧ ∀ (σ : L2.St) (H : Hp) (F G : List Addr) (R : It → Hp → Prop), S3 X.K G σ H ρ F →
  (∀ J H1, Same H H1 → (∀ H2 N2, Same (del (F ++ G) H1) (del N2 H2) → (∀ a ∈ N2, ∃ o, H2 a = some o) → Jsp X.K J ds H2 N2) → R J H1) → wi σ H R
theorem ItF.c {X : Cx} {ρ : Rho} {tg iter : Expr} {ds : List D} (h : ItF X ρ tg iter ds) : ItC X ρ tg iter ds := by
  obtain ⟨wi, p, h⟩ := h
  exact ⟨wi, p, fun σ H F G R S k => h σ H F G R S fun J H1 s j => k J H1 s fun H2 N2 _ q z => j H2 N2 q z⟩
section
variable {M : Md} {N : List Str} {sc : Scope} {fc : Str → Bool} {k : Nat} {X : Cx} {ρ : Rho} {e a b c : Expr} {es : List Expr} {t : T} {ts : List T} {d : D} {ds ds' : List D} {pos p : Pos} {x : Str} {tg : Expr}
theorem SqL.tr {K : PySem.W.Frag} {H : Hp} {q : Addr} {vs ws : List V} (h : H q = some (.lst vs)) (h' : SqL K H q ws) (hk : K.lookup q = none) : vs = ws := by
  rcases h' with (h' | ⟨o, h'⟩) | ⟨o, _, _, h', _⟩
  · rw [h] at h'
    cases h'
    rfl
  · rw [h] at h'
    cases h'
  · rw [hk] at h'
    cases h'
theorem ItC.list (h : Ls X ρ e ds) : ItC X ρ tg e ds := ⟨_, pi_list pe_best, fun σ H F G R S k => h σ H F G _ S fun q vs H1 s e1 r1 => ⟨q, rfl, ⟨vs, SqL.of e1⟩, k _ H1 s fun H2 N2 s2 s3 z => by
  have hq : SqL X.K H2 q vs := SqL.of (s2 _ _ e1)
  refine ⟨fun i d hi => ?_, ⟨vs, hq, by rw [r1.len]; exact Nat.le_refl _⟩⟩
  obtain ⟨v, e2, r2⟩ := (r1.sm s3).get hi
  refine ⟨⟨vs, v, hq, e2⟩, fun x H' y => ?_⟩
  obtain ⟨y1, y2⟩ := y
  subst y1
  have e3 := y2 vs hq
  rw [e2] at e3
  cases e3
  exact ⟨.refl _, r2⟩⟩⟩
theorem ItF.list (h : Ev X ρ e (.sh (.lst ds))) : ItF X ρ tg e ds := ⟨_, pi_list pe_best, fun σ H F G R S k => h σ H F G _ S fun v H1 E r => by
  have r' := r.rt
  cases r' with
  | sh r' =>
    cases r' with
    | @lst q vs _ e1 r1 =>
      refine ⟨q, rfl, ⟨vs, SqL.of (del_some e1).2⟩, k _ H1 r.sm fun H2 N2 s3 z => ?_⟩
      have hq : SqL X.K H2 q vs := SqL.of (del_some (s3 _ _ e1)).2
      refine ⟨fun i d hi => ?_, ⟨vs, hq, by rw [r1.len]; exact Nat.le_refl _⟩⟩
      obtain ⟨v, e2, r2⟩ := (r1.sm s3).get hi
      refine ⟨⟨vs, v, hq, e2⟩, fun x H' y => ?_⟩
      obtain ⟨y1, y2⟩ := y
      subst y1
      have e3 := y2 vs hq
      rw [e2] at e3
      cases e3
      exact ⟨.refl _, r2⟩⟩
theorem ItF.tup (h : Ev X ρ e (.sh (.tup ds))) : ItF X ρ tg e ds := ⟨_, pi_tup pe_best, fun σ H F G R S k => h σ H F G _ S fun v H1 E r => by
  have r' := r.rt
  cases r' with
  | sh r' =>
    cases r' with
    | @tup q vs _ e1 r1 =>
      refine ⟨q, rfl, ⟨vs, SqT.sm del_le e1⟩, k _ H1 r.sm fun H2 N2 s3 z => ?_⟩
      have hq : SqT X.K H2 q vs := SqT.sm (s3.trans del_le) e1
      refine ⟨fun i d hi => ?_, ⟨vs, hq, by rw [r1.len]; exact Nat.le_refl _⟩⟩
      obtain ⟨v, e2, r2⟩ := (r1.sm s3).get hi
      refine ⟨⟨vs, v, hq, e2⟩, fun x H' y => ?_⟩
      obtain ⟨y1, y2⟩ := y
      subst y1
      have e3 := y2 vs hq
      rw [e2] at e3
      cases e3
      exact ⟨.refl _, r2⟩⟩
/-- the numbers from lo on -/
def rngD (lo : Int) (n : Nat) : List D := (List.range n).map fun i => .int (lo + (i : Nat))
theorem rng_get {lo : Int} {n i : Nat} {d : D} (h : (rngD lo n)[i]? = some d) : i < n ∧ d = .int (lo + (i : Nat)) := by
  unfold rngD at h
  rw [List.getElem?_map] at h
  by_cases q : i < n
  · rw [List.getElem?_range q] at h
    cases h
    exact ⟨q, rfl⟩
  · rw [List.getElem?_eq_none (by rw [List.length_range]; omega)] at h
    cases h
theorem rng_len {lo : Int} {n : Nat} : (rngD lo n).length = n := by
  unfold rngD
  rw [List.length_map, List.length_range]
theorem jsp_rng {K : PySem.W.Frag} {lo : Int} {n : Nat} {H : Hp} {N : List Addr} : Jsp K (Itr lo n) (rngD lo n) H N := by
  refine ⟨fun i d hi => ?_, by show n ≤ _; rw [rng_len]; exact Nat.le_refl _⟩
  obtain ⟨h1, rfl⟩ := rng_get hi
  refine ⟨h1, fun x H' y => ?_⟩
  obtain ⟨rfl, rfl⟩ := y
  exact ⟨.refl _, .int _⟩
theorem ItF.range1 {j : Int} (hX : XF M N sc fc k X) (hm : M.mg "range" = none) (ha : Rd X ρ a (.int j)) (h1 : -(2 ^ 62) ≤ j) (h2 : j < 2 ^ 62) (hs : starEach (a :: []) X.env = (false, eval a X.env) :: starEach [] X.env := by rfl) (hg : glB sc "range" = true := by decide +kernel) :
    ItF X ρ tg (.Call (.Name "range" p) [a] [] pos) (rngD 0 j.toNat) := ⟨_, pi_range1 (hX.gl hg).1 (by rw [hX.m]; exact hm) pa_best hs, fun σ H F G R S k => RdA.one ha hs σ H F G _ S fun vs H1 s r => by
  obtain ⟨v, rfl, r'⟩ := r.one
  rw [r'.intE]
  exact ⟨j, rfl, h1, h2, k _ H1 s fun H2 N2 _ _ => jsp_rng⟩⟩
theorem ItF.range2 {i j : Int} (hX : XF M N sc fc k X) (hm : M.mg "range" = none) (ha : Rd X ρ a (.int i)) (hb : Rd X ρ b (.int j)) (h : -(2 ^ 62) ≤ i ∧ i < 2 ^ 62 ∧ -(2 ^ 62) ≤ j ∧ j < 2 ^ 62)
    (hs : starEach (a :: [b]) X.env = (false, eval a X.env) :: starEach [b] X.env := by rfl) (hs2 : starEach (b :: []) X.env = (false, eval b X.env) :: starEach [] X.env := by rfl) (hg : glB sc "range" = true := by decide +kernel) :
    ItF X ρ tg (.Call (.Name "range" p) [a, b] [] pos) (rngD i (j - i).toNat) := ⟨_, pi_range2 (hX.gl hg).1 (by rw [hX.m]; exact hm) pa_best (by rw [hs, hs2]; rfl) hs2, fun σ H F G R S k => RdA.cons ha (RdA.one hb hs2) hs σ H F G _ S fun vs H1 s r => by
  obtain ⟨v, w, rfl, r1, r2⟩ := r.two
  rw [r1.intE, r2.intE]
  exact ⟨i, j, rfl, h, k _ H1 s fun H2 N2 _ _ => jsp_rng⟩⟩
/-- pairs -/
def zipD (ds ds' : List D) : List D := List.zipWith (fun x y => .tup [x, y]) ds ds'
theorem zip_get : ∀ {ds ds' : List D} {i : Nat} {d : D}, (zipD ds ds')[i]? = some d → ∃ x y, ds[i]? = some x ∧ ds'[i]? = some y ∧ d = .tup [x, y]
  | [], _, _, _, h => by simp [zipD] at h
  | _ :: _, [], _, _, h => by simp [zipD] at h
  | x :: ds, y :: ds', 0, d, h => by
    simp [zipD] at h
    exact ⟨x, y, rfl, rfl, h.symm⟩
  | x :: ds, y :: ds', i + 1, d, h => by
    obtain ⟨u, v, h1, h2, h3⟩ := zip_get (ds := ds) (ds' := ds') (i := i) (d := d) (by simpa [zipD] using h)
    exact ⟨u, v, by simpa using h1, by simpa using h2, h3⟩
theorem jsp_zip {K : PySem.W.Frag} {H : Hp} {N : List Addr} {q q' : Addr} {vs ws : List V} (h1 : SqL K H q vs) (h2 : SqL K H q' ws) (r1 : Rps K (del N H) vs ds) (r2 : Rps K (del N H) ws ds') (z : ∀ a ∈ N, ∃ o, H a = some o) : Jsp K (Itz K q q') (zipD ds ds') H N := by
  refine ⟨fun i d hi => ?_, ⟨vs, ws, h1, h2, ?_⟩⟩
  · obtain ⟨x, y, e1, e2, rfl⟩ := zip_get hi
    obtain ⟨v, e3, p1⟩ := r1.get e1
    obtain ⟨w, e4, p2⟩ := r2.get e2
    refine ⟨⟨vs, ws, v, w, h1, h2, e3, e4⟩, fun u H' yl => ?_⟩
    obtain ⟨T, x', y', rfl, hT, rfl, f1, f2⟩ := yl
    have g1 := f1 _ h1
    have g2 := f2 _ h2
    rw [e3] at g1
    rw [e4] at g2
    cases g1
    cases g2
    have s := same_upd (o := .tup [v, w]) hT
    refine ⟨s, .tup (SqT.of (xs := [v, w]) ((del_out fun m => ?_).trans upd_same)) (.cons (p1.sm (del_sm s)) (.cons (p2.sm (del_sm s)) .nil))⟩
    obtain ⟨o, m⟩ := z T m
    rw [hT] at m
    cases m
  · unfold zipD
    rw [List.length_zipWith, r1.len, r2.len]
    omega
theorem ItC.zip (hX : XF M N sc fc k X) (hm : M.mg "zip" = none) (ha : Ls X ρ a ds) (hb : Ls X ρ b ds') {elts : List Expr} {kk : Nat} {tpos : Pos} (hs : starEach (a :: [b]) X.env = (false, eval a X.env) :: starEach [b] X.env := by rfl) (hs2 : starEach (b :: []) X.env = (false, eval b X.env) :: starEach [] X.env := by rfl)
    (hpl : (backTo pos (starEach [b] X.env)).any (·.1) = false := by rfl) (hg : glB sc "zip" = true := by decide +kernel) :
    ItC X ρ (.Tuple elts kk tpos) (.Call (.Name "zip" p) [a, b] [] pos) (zipD ds ds') := ⟨_, pi_zip (hX.gl hg).1 (by rw [hX.m]; exact hm) (pa_cons pe_best (pa_cons pe_best pa_nil hs2) hs) hs hpl, fun σ H F G R S k =>
  ha σ H F G _ S fun q vs H1 s1 e1 r1 => hb σ H1 F G _ (S.sm s1) fun q' ws H2 s2 e2 r2 =>
    ⟨q, q', vs, ws, rfl, SqL.of (s2 _ _ e1), SqL.of e2, k _ H2 (s1.trans s2) fun H3 N3 s3 s4 z => jsp_zip (SqL.of (s3 _ _ (s2 _ _ e1))) (SqL.of (s3 _ _ e2)) ((r1.sm (del_sm s2)).sm s4) (r2.sm s4) z⟩⟩
theorem Res.lstE {K : PySem.W.Frag} {NN : List Addr} {H H' : Hp} {v : V} {E : List Addr} (r : Res K NN H H' v (.sh (.lst ds)) E) : ∃ q vs, v = .ref q ∧ del NN H' q = some (.lst vs) ∧ Rps K (del NN H') vs ds := by
  have r' := r.rt
  cases r' with
  | sh r' =>
    cases r' with
    | @lst q vs _ e1 r1 => exact ⟨q, vs, rfl, e1, r1⟩
theorem ItF.zip (hX : XF M N sc fc k X) (hm : M.mg "zip" = none) (ha : Ev X ρ a (.sh (.lst ds))) (hb : Ev X ρ b (.sh (.lst ds'))) {elts : List Expr} {kk : Nat} {tpos : Pos} (hs : starEach (a :: [b]) X.env = (false, eval a X.env) :: starEach [b] X.env := by rfl) (hs2 : starEach (b :: []) X.env = (false, eval b X.env) :: starEach [] X.env := by rfl)
    (hpl : (backTo pos (starEach [b] X.env)).any (·.1) = false := by rfl) (hg : glB sc "zip" = true := by decide +kernel) :
    ItF X ρ (.Tuple elts kk tpos) (.Call (.Name "zip" p) [a, b] [] pos) (zipD ds ds') := ⟨_, pi_zip (hX.gl hg).1 (by rw [hX.m]; exact hm) (pa_cons pe_best (pa_cons pe_best pa_nil hs2) hs) hs hpl, fun σ H F G R S k =>
  ha σ H F G _ S fun v H1 E r1 => hb σ H1 F G _ (S.sm r1.sm) fun w H2 E2 r2 => by
    obtain ⟨q, vs, rfl, e1, p1⟩ := r1.lstE
    obtain ⟨q', ws, rfl, e2, p2⟩ := r2.lstE
    have e1' := del_sm r2.sm _ _ e1
    exact ⟨q, q', vs, ws, rfl, SqL.of (del_some e1').2, SqL.of (del_some e2).2, k _ H2 (r1.sm.trans r2.sm) fun H3 N3 s4 z => jsp_zip (SqL.of (del_some (s4 _ _ e1')).2) (SqL.of (del_some (s4 _ _ e2)).2) ((p1.sm (del_sm r2.sm)).sm s4) (p2.sm s4) z⟩⟩
/-- numbered -/
def enumD (ds : List D) : List D := zipD (rngD 0 ds.length) ds
theorem ItF.enum (hX : XF M N sc fc k X) (hm : M.mg "enumerate" = none) (ha : Ev X ρ a (.sh (.lst ds))) {elts : List Expr} {kk : Nat} {tpos : Pos} (hs : starEach (a :: []) X.env = (false, eval a X.env) :: starEach [] X.env := by rfl) (hg : glB sc "enumerate" = true := by decide +kernel) :
    ItF X ρ (.Tuple elts kk tpos) (.Call (.Name "enumerate" p) [a] [] pos) (enumD ds) := ⟨_, pi_enum (hX.gl hg).1 (by rw [hX.m]; exact hm) (pa_cons pe_best pa_nil hs) hs, fun σ H F G R S k =>
  ha σ H F G _ S fun v H1 E r1 => by
    obtain ⟨q, vs, rfl, e1, p1⟩ := r1.lstE
    refine ⟨q, vs, rfl, SqL.of (del_some e1).2, k _ H1 r1.sm fun H3 N3 s4 z => ?_⟩
    have hq : SqL X.K H3 q vs := SqL.of (del_some (s4 _ _ e1)).2
    have pl := p1.len
    refine ⟨fun i d hi => ?_, ⟨vs, hq, ?_⟩⟩
    · obtain ⟨x, y, e2, e3, rfl⟩ := zip_get hi
      obtain ⟨_, rfl⟩ := rng_get e2
      obtain ⟨w, e4, p2⟩ := (p1.sm s4).get e3
      refine ⟨⟨vs, w, hq, e4⟩, fun u H' yl => ?_⟩
      obtain ⟨T, x', rfl, hT, rfl, f1⟩ := yl
      have g1 := f1 _ hq
      rw [e4] at g1
      cases g1
      have s := same_upd (o := .tup [.int (i : Nat), w]) hT
      refine ⟨s, .tup (SqT.of (xs := [.int (i : Nat), w]) ((del_out fun m => ?_).trans upd_same)) (.cons ?_ (.cons (p2.sm (del_sm s)) .nil))⟩
      · obtain ⟨o, m⟩ := z T m
        rw [hT] at m
        cases m
      · rw [Int.zero_add]
        exact .int _
    · unfold enumD zipD
      rw [List.length_zipWith, rng_len, pl]
      omega⟩
/-! ### comprehensions -/
structure bestP (X : Cx) (ifs : List Expr) (σ : L2.St) (H : Hp) (Q : Bool → Hp → Prop) : Prop where
  run : ∀ (pins : List (Addr × Obj)) (s : Shared), Inv X pins σ H s →
    wpAny (model X.prog X.w) X.A (forIn ifs true fun c r => if r = true then do let ok ← isTrue c X.env (eval c X.env); pure (ForInStep.yield ok) else pure (ForInStep.yield r)) (TP X pins σ Q) X.xe s
theorem pts_best {ifs : List Expr} : PTs X ifs (bestP X ifs) := ⟨fun pins s σ H Q I h => h.run pins s I⟩
theorem bestP.of {ifs : List Expr} {t : TT} (h : PTs X ifs t) {σ : L2.St} {H : Hp} {Q : Bool → Hp → Prop} (q : t σ H Q) : bestP X ifs σ H Q := ⟨fun pins s I => h.run pins s σ H Q I q⟩
/-- a clause's tests -/
def Tf (X : Cx) (ρ : Rho) (ifs : List Expr) (b : Bool) : Prop := ∀ (σ : L2.St) (H : Hp) (F G : List Addr) (Q : Bool → Hp → Prop), S3 X.K G σ H ρ F → (∀ H', Same H H' → Q b H') → bestP X ifs σ H Q
theorem Tf.nil : Tf X ρ [] true := fun σ H F G Q S k => bestP.of pts_nil (k H (.refl _))
theorem Tf.one {q : Bool} (h : Te X ρ a q) : Tf X ρ [a] q := fun σ H F G Q S k => bestP.of (pts_one pt_best) (h σ H F G Q S k)
/-- what the blocks of a comprehension are -/
abbrev Blk (X : Cx) (scope : Scope) (X' : Cx) : Prop := ∃ (s : Shared) (H : Hp) (C : Addr) (cl : List (Str × Addr)) (fp : List Addr), X' = X.blk s H scope (compEnvC scope cl C X.env) fp
def fcB (scope : Scope) : Str → Bool := fun x => scope.names.lookup x == some .cell
theorem XF.blk {scope : Scope} {X' : Cx} (hX : XF M N sc fc k X) (h : Blk X scope X') : XF M N (relS scope sc) (fcB scope) k X' := by
  obtain ⟨s, H, C, cl, fp, rfl⟩ := h
  exact ⟨hX.p, hX.w, hX.K, hX.m, hX.b, hX.n, by rw [← hX.s]; rfl, hX.nd, hX.calm, rfl, hX.room, rfl, hX.gd⟩
/-- the block's own slots forgotten -/
def wipeR (ρ : Rho) : List Nat → Rho
  | [] => ρ
  | v :: vs => (wipeR ρ vs).set v none
theorem RO.wipe1 {K : PySem.W.Frag} {R H : Hp} : ∀ {ρ : Rho} {σ : L2.St} {F : List Addr} (i : Nat), RO K R H σ ρ F → fre ρ i = true → RO K R H (σ.set i none) (ρ.set i none) F := by
  intro ρ σ F i h
  induction h generalizing i with
  | nil => intro _; exact .nil
  | @no o σ ρ G h ih =>
    intro f
    cases i with
    | zero => exact RO.no h
    | succ i => exact .no (ih i f)
  | @yes v t σ ρ F G rt h ih =>
    intro f
    cases i with
    | zero =>
      have f' : fre (some t :: ρ) 0 = true := f
      cases rt with
      | sh _ => exact RO.no h
      | lst _ _ => cases f'
      | obj _ _ => cases f'
      | dic _ _ => cases f'
      | regT _ _ _ => cases f'
    | succ i => exact .yes rt (ih i f)
theorem fre_wipe1 {i j : Nat} (h : fre ρ j = true) : fre (ρ.set i none) j = true := by
  unfold fre
  by_cases e : i = j
  · subst e
    by_cases l : i < ρ.length
    · rw [List.getElem?_set_self l]
    · rw [List.getElem?_eq_none (by rw [List.length_set]; omega)]
  · rw [List.getElem?_set_ne e]
    exact h
theorem fre_wipe {j : Nat} (h : fre ρ j = true) : ∀ vs : List Nat, fre (wipeR ρ vs) j = true
  | [] => h
  | v :: vs => fre_wipe1 (fre_wipe h vs)
theorem RO.wipe {K : PySem.W.Frag} {R H : Hp} {σ : L2.St} {F : List Addr} (h : RO K R H σ ρ F) : ∀ {vs : List Nat}, (∀ i ∈ vs, fre ρ i = true) → RO K R H (wipe σ vs) (wipeR ρ vs) F
  | [], _ => h
  | v :: vs, f => (RO.wipe h fun i hi => f i (List.mem_cons_of_mem _ hi)).wipe1 v (fre_wipe (f v (List.mem_cons_self ..)) vs)
theorem RTs.snoc {K : PySem.W.Frag} {R H : Hp} : ∀ {ts : List T} {vs : List V} {E E2 : List Addr} {v : V} {t : T}, RTs K R H vs ts E → RT K R H v t E2 → RTs K R H (vs ++ [v]) (ts ++ [t]) (E ++ E2)
  | [], _, _, E2, v, t, h, r => by
    cases h
    have := RTs.cons r (RTs.nil (K := K) (R := R) (H := H))
    rw [List.append_nil] at this
    exact this
  | t :: ts, _, _, E2, v, u, h, r => by
    cases h with
    | cons h1 h2 =>
      rw [List.append_assoc]
      exact .cons h1 (RTs.snoc h2 r)
theorem fm_take {us : List (Option T)} {i : Nat} {u : Option T} (h : us[i]? = some u) : (us.take (i + 1)).filterMap id = (us.take i).filterMap id ++ u.toList := by
  rw [List.take_add_one, h, List.filterMap_append]
  cases u <;> rfl
theorem fm_len (us : List (Option T)) (i : Nat) : ((us.take i).filterMap id).length ≤ i :=
  Nat.le_trans (List.length_filterMap_le _ _) (by rw [List.length_take]; omega)
/-- the reading of a comprehension -/
theorem lc_core3 {tgt : Tg} {vs : List Nat} {scope : Scope} {elt : Expr} {ifs : List Expr} {us : List (Option T)} {J : It} {σ : L2.St} {H H1 : Hp} {F G : List Addr} {Q : VK} (S : S3 X.K G σ H ρ F) (s1 : Same H H1)
    (hJ : ∀ H2 N2, Same H1 H2 → Same (del (F ++ G) H1) (del N2 H2) → (∀ a ∈ N2, ∃ o, H2 a = some o) → Jsp X.K J ds H2 N2)
    (hf : ∀ i ∈ vs, fre ρ i = true) (hv : ∀ i ∈ tgt.is, i ∈ vs) (hl : us.length = ds.length) (hz : ds.length ≤ sizeLine) (hok : ∀ d ∈ ds, tgt.ok d = true)
    (step : ∀ (i : Nat) (d : D) (u : Option T) (X' : Cx), Blk X scope X' → ds[i]? = some d → us[i]? = some u → Tf X' (tgt.asg d (wipeR ρ vs)) ifs u.isSome ∧ ∀ t, u = some t → Ev X' (tgt.asg d (wipeR ρ vs)) elt t)
    (k : ∀ D H' E, Res X.K (F ++ G) H H' (.ref D) (.lst (us.filterMap id)) E → Q (.ref D) H') :
    ∀ D, H1 D = none → ∃ W : Nat → Nat → Hp → Prop, (∃ m, W 0 m (upd H1 D (.lst []))) ∧ ∀ i m H, W i m H →
      (J.stop i H ∧ Q (.ref D) H) ∨ (J.go i H ∧ ∃ Nx : Hp → Prop, (∀ H', Nx H' → ∃ m', m' < m ∧ W (i + 1) m' H') ∧ ∀ x H', J.yld i H x H' → tgt.g X.K x (wipe σ vs) H' fun σ2 H2 => wipe σ2 vs = wipe σ vs ∧
        (fun σ H Q => ∀ X', Blk X scope X' → bestP X' ifs σ H Q : TT) σ2 H2 fun b H3 => if b = true then (fun σ H Q => ∀ X', Blk X scope X' → best X' elt σ H Q : TE) σ2 H3 fun y H4 => ∃ acc, H4 D = some (.lst acc) ∧ acc.length < sizeLine ∧ Nx (upd H4 D (.lst (acc ++ [y]))) else Nx H3) := by
  intro D hD
  have S1 := S.sm s1
  have hDF : D ∉ F ++ G := fun z => by
    obtain ⟨o, e⟩ := S1.fs D z
    rw [hD] at e
    cases e
  let W : Nat → Nat → Hp → Prop := fun i m H => ∃ ws E, m = ds.length - i ∧ i ≤ ds.length ∧ Same H1 H ∧ H D = some (.lst ws) ∧ RTs X.K (del (F ++ ((E ++ [D]) ++ G)) H) H ws ((us.take i).filterMap id) E ∧ (∀ a ∈ E, H1 a = none) ∧ (E ++ [D]).Nodup
  refine ⟨W, ⟨_, [], [], rfl, Nat.zero_le _, same_upd hD, upd_same, .nil, (fun a z => nomatch z), by simp⟩, ?_⟩
  rintro i m H2 ⟨ws, E, rfl, hi, s2, eD, rE, fE, nE⟩
  have hfr : ∀ a ∈ E ++ [D], H1 a = none := fun a ha => (List.mem_append.mp ha).elim (fE a) fun z => by
    rw [List.mem_singleton.mp z]
    exact hD
  have hso : ∀ a ∈ E ++ [D], ∃ o, H2 a = some o := fun a ha => (List.mem_append.mp ha).elim (rE.fs a) fun z => by
    rw [List.mem_singleton.mp z]
    exact ⟨_, eD⟩
  have S2 : S3 X.K ((E ++ [D]) ++ G) σ H2 ρ F := S1.ext s2 hfr nE hso
  have hN : ∀ a ∈ F ++ ((E ++ [D]) ++ G), a ∈ F ++ G ∨ H1 a = none := fun a ha => by
    rcases List.mem_append.mp ha with z | z
    · exact .inl (List.mem_append_left _ z)
    · rcases List.mem_append.mp z with z | z
      · exact .inr (hfr a z)
      · exact .inl (List.mem_append_right _ z)
  have j := hJ H2 (F ++ ((E ++ [D]) ++ G)) s2 (del_new s2 hN) S2.fs
  by_cases hlt : i < ds.length
  · obtain ⟨d, hd⟩ : ∃ d, ds[i]? = some d := ⟨_, List.getElem?_eq_getElem hlt⟩
    obtain ⟨u, hu⟩ : ∃ u, us[i]? = some u := ⟨_, List.getElem?_eq_getElem (hl ▸ hlt)⟩
    obtain ⟨jg, jy⟩ := j.go i d hd
    refine .inr ⟨jg, W (i + 1) (ds.length - (i + 1)), fun H' w => ⟨_, by omega, w⟩, fun x H3 y => ?_⟩
    obtain ⟨s3, rx⟩ := jy x H3 y
    have S3' : S3 X.K ((E ++ [D]) ++ G) σ H3 ρ F := S2.sm s3
    have S4 : S3 X.K ((E ++ [D]) ++ G) (wipe σ vs) H3 (wipeR ρ vs) F := ⟨S3'.ro.wipe hf, S3'.nd, S3'.gs⟩
    refine tgt.run vs S4 rx (hok d (List.mem_of_getElem? hd)) (fun i hi => fre_wipe (hf i (hv i hi)) vs) fun σ2 S5 hw => ?_
    refine ⟨?_, fun X' bX => ?_⟩
    · rw [hw hv]
      have : ∀ {vs ws : List Nat} {σ : L2.St}, (∀ i ∈ vs, i ∈ ws) → wipe (wipe σ vs) ws = wipe σ ws := by
        intro vs
        induction vs with
        | nil => intro ws σ _; rfl
        | cons v vs ih =>
          intro ws σ h
          show wipe ((wipe σ vs).set v none) ws = _
          rw [wipe_set (h v (List.mem_cons_self ..))]
          exact ih fun i hi => h i (List.mem_cons_of_mem _ hi)
      exact this fun i hi => hi
    have eK : X'.K = X.K := by
      obtain ⟨s, H, C, cl, fp, rfl⟩ := bX
      rfl
    obtain ⟨st, sv⟩ := step i d u X' bX hd hu
    refine st σ2 H3 F _ _ (eK ▸ S5) fun H4 s4 => ?_
    have s14 : Same H1 H4 := s2.trans (s3.trans s4)
    cases u with
    | none =>
      show if false = true then _ else _
      rw [if_neg Bool.false_ne_true]
      refine ⟨ws, E, rfl, by omega, s14, s4 _ _ (s3 _ _ eD), ?_, fE, nE⟩
      rw [fm_take hu]
      show RTs _ _ _ _ (_ ++ []) _
      rw [List.append_nil]
      exact rE.sm (del_sm (s3.trans s4)) (.of (s3.trans s4))
    | some t =>
      show if true = true then _ else _
      rw [if_pos rfl]
      intro X'' bX''
      have eK2 : X''.K = X.K := by
        obtain ⟨s, H, C, cl, fp, rfl⟩ := bX''
        rfl
      refine (step i d (some t) X'' bX'' hd hu).2 t rfl σ2 H4 F ((E ++ [D]) ++ G) _ (eK2 ▸ S5.sm s4) fun y H5 E2 r => ?_
      rw [eK2] at r
      have s5 := s14.trans r.sm
      have eD5 : H5 D = some (.lst ws) := r.sm _ _ (s4 _ _ (s3 _ _ eD))
      have hD2 : D ∉ E2 := fun z => by
        have := r.fr D z
        rw [s4 _ _ (s3 _ _ eD)] at this
        cases this
      have hDE : D ∉ E := fun z => (List.nodup_append.mp nE).2.2 D z D (List.mem_singleton_self _) rfl
      have lw : ws.length ≤ i := by
        rw [rE.len]
        exact fm_len us i
      refine ⟨ws, eD5, by omega, ws ++ [y], E ++ E2, rfl, by omega, fun b o e => ?_, upd_same, ?_, fun a ha => ?_, ?_⟩
      · rw [upd_ne (ne_of_none e hD)]
        exact s5 _ _ e
      · rw [fm_take hu]
        show RTs _ _ _ _ (_ ++ [t]) _
        have sub1 : Same (del (F ++ ((E ++ [D]) ++ G)) H2) (del (F ++ (((E ++ E2) ++ [D]) ++ G)) (upd H5 D (.lst (ws ++ [y])))) := fun b o q => by
          obtain ⟨q1, q2⟩ := del_some q
          have hb : b ∉ F ++ (((E ++ E2) ++ [D]) ++ G) := fun z => by
            simp only [List.mem_append] at z q1
            rcases z with z | ((z | z) | z) | z
            · exact q1 (.inl z)
            · exact q1 (.inr (.inl (.inl z)))
            · have := r.fr b z
              rw [s4 _ _ (s3 _ _ q2)] at this
              cases this
            · exact q1 (.inr (.inl (.inr z)))
            · exact q1 (.inr (.inr z))
          rw [del_out hb, upd_ne fun z => q1 (by rw [z]; simp)]
          exact r.sm _ _ (s4 _ _ (s3 _ _ q2))
        refine RTs.snoc (rE.sm sub1 fun a ha o q => ?_) (r.rt.sm (fun b o q => ?_) fun a ha o q => ?_)
        · rw [upd_ne (show a ≠ D from fun z => hDE (z ▸ ha))]
          exact r.sm _ _ (s4 _ _ (s3 _ _ q))
        · obtain ⟨q1, q2⟩ := del_some q
          have hb : b ∉ F ++ (((E ++ E2) ++ [D]) ++ G) := fun z => by
            simp only [List.mem_append] at z q1
            rcases z with z | ((z | z) | z) | z
            · exact q1 (.inr (.inl z))
            · exact q1 (.inr (.inr (.inl (.inl z))))
            · exact q1 (.inl z)
            · exact q1 (.inr (.inr (.inl (.inr z))))
            · exact q1 (.inr (.inr (.inr z)))
          rw [del_out hb, upd_ne fun z => q1 (by rw [z]; simp)]
          exact q2
        · rw [upd_ne (show a ≠ D from fun z => hD2 (z ▸ ha))]
          exact q
      · rcases List.mem_append.mp ha with z | z
        · exact fE a z
        · exact s14.free (r.fr a z)
      · refine List.nodup_append.mpr ⟨List.nodup_append.mpr ⟨(List.nodup_append.mp nE).1, r.nd, fun a ha b hb e => ?_⟩, by simp, fun a ha b hb e => ?_⟩
        · subst e
          obtain ⟨o, q⟩ := rE.fs a ha
          have := r.fr a hb
          rw [s4 _ _ (s3 _ _ q)] at this
          cases this
        · rw [List.mem_singleton.mp hb] at e
          subst e
          exact (List.mem_append.mp ha).elim hDE hD2
  · have e : i = ds.length := by omega
    subst e
    refine .inl ⟨j.stop, k D H2 (D :: E) ⟨s1.trans s2, fun a ha => ?_, ?_, .lst eD ?_⟩⟩
    · rcases List.mem_cons.mp ha with z | z
      · rw [z]
        exact s1.free hD
      · exact s1.free (fE a z)
    · have := List.nodup_append.mp nE
      exact List.nodup_cons.mpr ⟨fun z => this.2.2 D z D (List.mem_singleton_self _) rfl, this.1⟩
    · have ht : us.take ds.length = us := List.take_of_length_le (by omega)
      rw [ht] at rE
      exact rE.less (del_sub fun a ha => by
        simp only [List.mem_append, List.mem_cons, List.mem_singleton, List.not_mem_nil, or_false] at ha ⊢
        rcases ha with (z | z) | (z | z)
        · exact .inr (.inl (.inr z))
        · exact .inr (.inl (.inl z))
        · exact .inl z
        · exact .inr (.inr z))
end
section
variable {M : Md} {N : List Str} {sc : Scope} {fc : Str → Bool} {k : Nat} {X : Cx} {ρ : Rho} {e a b c : Expr} {es : List Expr} {t : T} {ts : List T} {d : D} {ds ds' : List D} {pos p p1 p2 p3 : Pos} {x y : Str} {tg iter elt : Expr} {scope : Scope}
theorem XF.pg1 (hX : XF M N sc fc k X) (i : Nat) (hN : N[i]? = some x) (h : locB sc fc x = true) {K : PySem.W.Frag} : PG X (.Name x pos) ((Tg.one i).g K) := hX.pg i hN h
theorem XF.pg2 (hX : XF M N sc fc k X) (i j : Nat) (hN : N[i]? = some x) (h : locB sc fc x = true) (hN2 : N[j]? = some y) (h2 : locB sc fc y = true) {kk : Nat} {K : PySem.W.Frag} (hK : X.K = K) : PG X (.Tuple [.Name x p1, .Name y p2] kk pos) ((Tg.tup [i, j]).g K) := by
  subst hK
  exact pg_tup hX.calm (pgs_cons (hX.pg i hN h) (pgs_cons (hX.pg j hN2 h2) pgs_nil))
/-- the reading of any comprehension, in both of its places -/
theorem lc_tLc {tgt : Tg} {vs : List Nat} {ifs : List Expr} {us : List (Option T)} {wi : TI} (hwi : ∀ (σ : L2.St) (H : Hp) (F G : List Addr) (R : It → Hp → Prop), S3 X.K G σ H ρ F →
  (∀ J H1, Same H H1 → (∀ H2 N2, Same H1 H2 → Same (del (F ++ G) H1) (del N2 H2) → (∀ a ∈ N2, ∃ o, H2 a = some o) → Jsp X.K J ds H2 N2) → R J H1) → wi σ H R)
    (hf : ∀ i ∈ vs, fre ρ i = true) (hv : ∀ i ∈ tgt.is, i ∈ vs) (hl : us.length = ds.length) (hz : ds.length ≤ sizeLine) (hok : ∀ d ∈ ds, tgt.ok d = true)
    (step : ∀ (i : Nat) (d : D) (u : Option T) (X' : Cx), Blk X scope X' → ds[i]? = some d → us[i]? = some u → Tf X' (tgt.asg d (wipeR ρ vs)) ifs u.isSome ∧ ∀ t, u = some t → Ev X' (tgt.asg d (wipeR ρ vs)) elt t)
    {σ : L2.St} {H : Hp} {F G : List Addr} {Q : VK} (S : S3 X.K G σ H ρ F) (kk : ∀ v H' E, Res X.K (F ++ G) H H' v (.lst (us.filterMap id)) E → Q v H') :
    tLc wi (tgt.g X.K) (fun σ H Q => ∀ X', Blk X scope X' → bestP X' ifs σ H Q) (fun σ H Q => ∀ X', Blk X scope X' → best X' elt σ H Q) vs σ H Q :=
  hwi σ H F G _ S fun J H1 s1 hJ => lc_core3 (scope := scope) S s1 hJ hf hv hl hz hok step fun D H' E r => kk _ H' E r
theorem blk_pts {ifs : List Expr} (s : Shared) (H : Hp) (C : Addr) (cl : List (Str × Addr)) (fp : List Addr) : PTs (X.blk s H scope (compEnvC scope cl C X.env) fp) ifs (fun σ H Q => ∀ X', Blk X scope X' → bestP X' ifs σ H Q) :=
  ⟨fun pins s' σ H' Q I h => (h _ ⟨s, H, C, cl, fp, rfl⟩).run pins s' I⟩
theorem blk_pe (s : Shared) (H : Hp) (C : Addr) (cl : List (Str × Addr)) (fp : List Addr) : PE (X.blk s H scope (compEnvC scope cl C X.env) fp) elt (fun σ H Q => ∀ X', Blk X scope X' → best X' elt σ H Q) :=
  ⟨fun pins s' σ H' Q I h => (h _ ⟨s, H, C, cl, fp, rfl⟩).run pins s' I⟩
theorem blk_of {own : List (Str × Nat)} (hX : XF M N sc fc k X) (h : blkC N sc scope own = true) : BlkOk X.N X.env.scope scope own := by
  rw [hX.n, hX.s]
  exact blkOk_by h
/-- [elt for tg in iter if ..] -/
theorem Ev.lc {own : List (Str × Nat)} {tgt : Tg} {ifs : List Expr} {us : List (Option T)} (hX : XF M N sc fc k X) (hi : ItC X ρ tg iter ds) (ok : blkC N sc scope own = true) (hg : ∀ X', Blk X scope X' → PG X' tg (tgt.g X.K))
    (hf : ∀ i ∈ own.map (·.2), fre ρ i = true) (hv : ∀ i ∈ tgt.is, i ∈ own.map (·.2)) (hl : us.length = ds.length) (hz : ds.length ≤ sizeLine) (hok : ∀ d ∈ ds, tgt.ok d = true)
    (step : ∀ (i : Nat) (d : D) (u : Option T) (X' : Cx), Blk X scope X' → ds[i]? = some d → us[i]? = some u → Tf X' (tgt.asg d (wipeR ρ (own.map (·.2)))) ifs u.isSome ∧ ∀ t, u = some t → Ev X' (tgt.asg d (wipeR ρ (own.map (·.2)))) elt t)
    (hs : ∀ x, foldedSetIterable iter X.env x = pure x := by intro _; rfl) : Ev X ρ (.ListComp elt [⟨tg, iter, ifs, 0⟩] scope pos) (.lst (us.filterMap id)) := by
  obtain ⟨wi, pi, hwi⟩ := hi
  exact fun σ H F G Q S kk => best.of (pe_lc hX.calm (by rw [hX.n]; exact hX.nd) pi (blk_of hX ok) (fun s H C cl fp => hg _ ⟨s, H, C, cl, fp, rfl⟩) (fun s H C cl fp => blk_pts s H C cl fp) (fun s H C cl fp => blk_pe s H C cl fp) hs)
    (lc_tLc hwi hf hv hl hz hok step S kk)
theorem fm_some {α : Type} (g : α → T) : ∀ xs : List α, (xs.map fun x => some (g x)).filterMap id = xs.map g
  | [] => rfl
  | x :: xs => by
    rw [List.map_cons, List.filterMap_cons_some (f := id) rfl, fm_some g xs, List.map_cons]
theorem fm_filter {α : Type} (g : α → T) (q : α → Bool) : ∀ xs : List α, (xs.map fun x => if q x then some (g x) else none).filterMap id = (xs.filter q).map g
  | [] => rfl
  | x :: xs => by
    rw [List.map_cons]
    cases h : q x with
    | true =>
      rw [if_pos rfl, List.filterMap_cons_some (f := id) rfl, fm_filter g q xs, List.filter_cons_of_pos h, List.map_cons]
    | false =>
      rw [if_neg Bool.false_ne_true, List.filterMap_cons_none (f := id) rfl, fm_filter g q xs, List.filter_cons_of_neg (by rw [h]; exact Bool.false_ne_true)]
theorem map_at {α β : Type} {f : α → β} {xs : List α} {i : Nat} {d : β} (h : (xs.map f)[i]? = some d) : ∃ x, xs[i]? = some x ∧ x ∈ xs ∧ d = f x := by
  rw [List.getElem?_map] at h
  cases q : xs[i]? with
  | none =>
    rw [q] at h
    cases h
  | some x =>
    rw [q] at h
    cases h
    exact ⟨x, rfl, List.mem_of_getElem? q, rfl⟩
/-- everything about one target -/
theorem one_hyps {own : List (Str × Nat)} {i : Nat} (hown : own = [(x, i)]) (f : fre ρ i = true) : (∀ j ∈ own.map (·.2), fre ρ j = true) ∧ (∀ j ∈ (Tg.one i).is, j ∈ own.map (·.2)) ∧ ∀ d, (Tg.one i).asg d (wipeR ρ (own.map (·.2))) = ρ.set i (some (.sh d)) := by
  subst hown
  refine ⟨fun j hj => ?_, fun j hj => hj, fun d => ?_⟩
  · rw [List.mem_singleton.mp hj]
    exact f
  · show ((ρ.set i none).set i _) = _
    rw [List.set_set]
theorem two_hyps {own : List (Str × Nat)} {i j : Nat} (hown : own = [(x, i), (y, j)]) (hij : i ≠ j) (f : fre ρ i = true) (f2 : fre ρ j = true) : (∀ j ∈ own.map (·.2), fre ρ j = true) ∧ (∀ l ∈ (Tg.tup [i, j]).is, l ∈ own.map (·.2)) ∧ ∀ d d', (Tg.tup [i, j]).asg (.tup [d, d']) (wipeR ρ (own.map (·.2))) = (ρ.set i (some (.sh d))).set j (some (.sh d')) := by
  subst hown
  refine ⟨fun l hl => ?_, fun l hl => hl, fun d d' => ?_⟩
  · rcases List.mem_cons.mp hl with e | hl
    · rw [e]
      exact f
    · rw [List.mem_singleton.mp hl]
      exact f2
  · show ((((ρ.set j none).set i none).set i (some (.sh d))).set j (some (.sh d'))) = _
    rw [List.set_set, List.set_comm none (some (T.sh d)) (Ne.symm hij), List.set_set]
theorem lcN {α : Type} {xs : List α} {en : α → D} {g : α → T} (hX : XF M N sc fc k X) (i : Nat) (hi : ItC X ρ (.Name x p) iter (xs.map en))
    (step : ∀ X', Blk X scope X' → XF M N (relS scope sc) (fcB scope) k X' → ∀ a ∈ xs, Ev X' (ρ.set i (some (.sh (en a)))) elt (g a)) (hz : xs.length ≤ sizeLine)
    (ok : blkC N sc scope [(x, i)] = true := by decide +kernel) (hN : N[i]? = some x := by rfl) (hl : locB (relS scope sc) (fcB scope) x = true := by decide +kernel) (f : fre ρ i = true := by rfl)
    (hs : ∀ x, foldedSetIterable iter X.env x = pure x := by intro _; rfl) : Ev X ρ (.ListComp elt [⟨.Name x p, iter, [], 0⟩] scope pos) (.lst (xs.map g)) := by
  obtain ⟨h1, h2, h3⟩ := one_hyps (own := [(x, i)]) (ρ := ρ) rfl f
  have := Ev.lc (pos := pos) (own := [(x, i)]) (tgt := .one i) (ifs := []) (us := xs.map fun a => some (g a)) (elt := elt) hX hi ok (fun X' b => (hX.blk b).pg1 i hN hl) h1 h2 (by rw [List.length_map, List.length_map]) (by rw [List.length_map]; exact hz) (fun _ _ => rfl) (fun j d u X' b hd hu => by
    obtain ⟨a, e1, m, rfl⟩ := map_at hd
    obtain ⟨a', e2, _, rfl⟩ := map_at hu
    rw [e1] at e2
    cases e2
    rw [h3]
    refine ⟨Tf.nil, fun t q => ?_⟩
    cases q
    exact step X' b (hX.blk b) a m) hs
  rw [fm_some] at this
  exact this
theorem lcF {α : Type} {xs : List α} {en : α → D} {g : α → T} {q : α → Bool} {cond : Expr} (hX : XF M N sc fc k X) (i : Nat) (hi : ItC X ρ (.Name x p) iter (xs.map en))
    (step : ∀ X', Blk X scope X' → XF M N (relS scope sc) (fcB scope) k X' → ∀ a ∈ xs, Te X' (ρ.set i (some (.sh (en a)))) cond (q a) ∧ (q a = true → Ev X' (ρ.set i (some (.sh (en a)))) elt (g a))) (hz : xs.length ≤ sizeLine)
    (ok : blkC N sc scope [(x, i)] = true := by decide +kernel) (hN : N[i]? = some x := by rfl) (hl : locB (relS scope sc) (fcB scope) x = true := by decide +kernel) (f : fre ρ i = true := by rfl)
    (hs : ∀ x, foldedSetIterable iter X.env x = pure x := by intro _; rfl) : Ev X ρ (.ListComp elt [⟨.Name x p, iter, [cond], 0⟩] scope pos) (.lst ((xs.filter q).map g)) := by
  obtain ⟨h1, h2, h3⟩ := one_hyps (own := [(x, i)]) (ρ := ρ) rfl f
  have := Ev.lc (pos := pos) (own := [(x, i)]) (tgt := .one i) (ifs := [cond]) (us := xs.map fun a => if q a then some (g a) else none) (elt := elt) hX hi ok (fun X' b => (hX.blk b).pg1 i hN hl) h1 h2 (by rw [List.length_map, List.length_map]) (by rw [List.length_map]; exact hz) (fun _ _ => rfl) (fun j d u X' b hd hu => by
    obtain ⟨a, e1, m, rfl⟩ := map_at hd
    obtain ⟨a', e2, _, rfl⟩ := map_at hu
    rw [e1] at e2
    cases e2
    rw [h3]
    obtain ⟨s1, s2⟩ := step X' b (hX.blk b) a m
    cases hq : q a with
    | true =>
      rw [if_pos rfl]
      rw [hq] at s1
      refine ⟨Tf.one s1, fun t z => ?_⟩
      cases z
      exact s2 hq
    | false =>
      rw [if_neg Bool.false_ne_true]
      rw [hq] at s1
      exact ⟨Tf.one s1, fun t z => nomatch z⟩) hs
  rw [fm_filter] at this
  exact this
theorem zip_map {α β : Type} (f : α → D) (g : β → D) : ∀ (xs : List α) (ys : List β), zipD (xs.map f) (ys.map g) = (xs.zip ys).map fun q => .tup [f q.1, g q.2]
  | [], _ => rfl
  | _ :: _, [] => rfl
  | x :: xs, y :: ys => by
    show .tup [f x, g y] :: zipD (xs.map f) (ys.map g) = _
    rw [zip_map f g xs ys]
    rfl
theorem lcZ {α : Type} {xs : List α} {en en' : α → D} {g : α → T} {kk : Nat} {tpos : Pos} (hX : XF M N sc fc k X) (i j : Nat) (hi : ItC X ρ (.Tuple [.Name x p1, .Name y p2] kk tpos) iter (xs.map fun a => .tup [en a, en' a]))
    (step : ∀ X', Blk X scope X' → XF M N (relS scope sc) (fcB scope) k X' → ∀ a ∈ xs, Ev X' ((ρ.set i (some (.sh (en a)))).set j (some (.sh (en' a)))) elt (g a)) (hz : xs.length ≤ sizeLine)
    (ok : blkC N sc scope [(x, i), (y, j)] = true := by decide +kernel) (hN : N[i]? = some x := by rfl) (hl : locB (relS scope sc) (fcB scope) x = true := by decide +kernel) (hN2 : N[j]? = some y := by rfl) (hl2 : locB (relS scope sc) (fcB scope) y = true := by decide +kernel) (f : fre ρ i = true := by rfl) (f2 : fre ρ j = true := by rfl) (hij : i ≠ j := by decide)
    (hs : ∀ x, foldedSetIterable iter X.env x = pure x := by intro _; rfl) : Ev X ρ (.ListComp elt [⟨.Tuple [.Name x p1, .Name y p2] kk tpos, iter, [], 0⟩] scope pos) (.lst (xs.map g)) := by
  obtain ⟨h1, h2, h3⟩ := two_hyps (own := [(x, i), (y, j)]) (ρ := ρ) rfl hij f f2
  have := Ev.lc (pos := pos) (own := [(x, i), (y, j)]) (tgt := .tup [i, j]) (ifs := []) (us := xs.map fun a => some (g a)) (elt := elt) hX hi ok (fun X' b => (hX.blk b).pg2 i j hN hl hN2 hl2 (by obtain ⟨s, H, C, cl, fp, rfl⟩ := b; rfl)) h1 h2 (by rw [List.length_map, List.length_map]) (by rw [List.length_map]; exact hz) (fun d hd => by
      obtain ⟨a, _, rfl⟩ := List.mem_map.mp hd
      rfl) (fun j d u X' b hd hu => by
    obtain ⟨a, e1, m, rfl⟩ := map_at hd
    obtain ⟨a', e2, _, rfl⟩ := map_at hu
    rw [e1] at e2
    cases e2
    rw [h3]
    refine ⟨Tf.nil, fun t q => ?_⟩
    cases q
    exact step X' b (hX.blk b) a m) hs
  rw [fm_some] at this
  exact this
end
/-! ### statements -/
structure K3 where
  nx : Rho → Prop
  rt : T → Prop := fun _ => False
  bk : Rho → Prop := fun _ => False
  ct : Rho → Prop := fun _ => False
structure bestS (X : Cx) (st : Stmt) (D : Ends) (σ : L2.St) (H : Hp) : Prop where
  run : ∀ (pins : List (Addr × Obj)) (s : Shared), Inv X pins σ H s → wpAny (model X.prog X.w) X.A (exec st X.env) (SP X pins D) X.xe s
theorem ps_best {X : Cx} {st : Stmt} : PS X st (bestS X st) := ⟨fun pins s σ H D I h => h.run pins s I⟩
theorem bestS.of {X : Cx} {st : Stmt} {t : TS} (h : PS X st t) {σ : L2.St} {H : Hp} {D : Ends} (q : t D σ H) : bestS X st D σ H := ⟨fun pins s I => h.run pins s σ H D I q⟩
structure bestSs (X : Cx) (st : List Stmt) (D : Ends) (σ : L2.St) (H : Hp) : Prop where
  run : ∀ (pins : List (Addr × Obj)) (s : Shared), Inv X pins σ H s → wpAny (model X.prog X.w) X.A (execs st X.env) (SP X pins D) X.xe s
theorem pss_best {X : Cx} {st : List Stmt} : PSs X st (bestSs X st) := ⟨fun pins s σ H D I h => h.run pins s I⟩
theorem bestSs.of {X : Cx} {st : List Stmt} {t : TS} (h : PSs X st t) {σ : L2.St} {H : Hp} {D : Ends} (q : t D σ H) : bestSs X st D σ H := ⟨fun pins s I => h.run pins s σ H D I q⟩
/-- what stands of a state behind another one -/
structure Stp (G F F' : List Addr) (H H' : Hp) : Prop where
  sh : Same (del (F ++ G) H) (del (F' ++ G) H')
  kp : Keep G H H'
theorem Stp.refl {G F : List Addr} {H : Hp} : Stp G F F H H := ⟨.refl _, fun _ _ _ h => h⟩
theorem Stp.trans {G F F1 F2 : List Addr} {H H1 H2 : Hp} (a : Stp G F F1 H H1) (b : Stp G F1 F2 H1 H2) : Stp G F F2 H H2 := ⟨a.sh.trans b.sh, fun x hx o q => b.kp x hx o (a.kp x hx o q)⟩
theorem Stp.of {G F : List Addr} {H H' : Hp} (s : Same H H') : Stp G F F H H' := ⟨del_sm s, fun a _ o q => s a o q⟩
/-- what is wanted behind -/
structure Wish (X : Cx) (K : K3) (G F : List Addr) (H : Hp) (D : Ends) : Prop where
  nx : ∀ σ' H' ρ' F', S3 X.K G σ' H' ρ' F' → Stp G F F' H H' → K.nx ρ' → D.nx σ' H'
  rt : ∀ v H' t E, RT X.K (del (E ++ G) H') H' v t E → E.Nodup → (∀ a ∈ E, a ∉ G) → Stp G F E H H' → K.rt t → D.rt v H'
  bk : ∀ σ' H' ρ' F', S3 X.K G σ' H' ρ' F' → Stp G F F' H H' → K.bk ρ' → D.bk σ' H'
  ct : ∀ σ' H' ρ' F', S3 X.K G σ' H' ρ' F' → Stp G F F' H H' → K.ct ρ' → D.ct σ' H'
theorem Wish.step {X : Cx} {K : K3} {G F F1 : List Addr} {H H1 : Hp} {D : Ends} (w : Wish X K G F H D) (s : Stp G F F1 H H1) : Wish X K G F1 H1 D :=
  ⟨fun σ' H' ρ' F' S s' => w.nx σ' H' ρ' F' S (s.trans s'), fun v H' t E r n a s' => w.rt v H' t E r n a (s.trans s'), fun σ' H' ρ' F' S s' => w.bk σ' H' ρ' F' S (s.trans s'), fun σ' H' ρ' F' S s' => w.ct σ' H' ρ' F' S (s.trans s')⟩
def Sm (X : Cx) (ρ : Rho) (st : Stmt) (K : K3) : Prop := ∀ (σ : L2.St) (H : Hp) (F G : List Addr) (D : Ends), S3 X.K G σ H ρ F → Wish X K G F H D → bestS X st D σ H
def Ss (X : Cx) (ρ : Rho) (st : List Stmt) (K : K3) : Prop := ∀ (σ : L2.St) (H : Hp) (F G : List Addr) (D : Ends), S3 X.K G σ H ρ F → Wish X K G F H D → bestSs X st D σ H
section
variable {M : Md} {N : List Str} {sc : Scope} {fc : Str → Bool} {k : Nat} {X : Cx} {ρ : Rho} {e a b c : Expr} {es : List Expr} {t : T} {ts : List T} {d : D} {ds ds' : List D} {pos p p1 p2 p3 : Pos} {x y : Str} {tg iter elt : Expr} {scope : Scope} {K : K3} {st : Stmt} {rest body : List Stmt}
theorem Ss.nil (h : K.nx ρ) : Ss X ρ [] K := fun σ H F G D S w => bestSs.of pss_nil (w.nx σ H ρ F S .refl h)
theorem Ss.cons (h : Sm X ρ st { K with nx := fun ρ' => Ss X ρ' rest K }) : Ss X ρ (st :: rest) K := fun σ H F G D S w =>
  bestSs.of (pss_cons ps_best pss_best) (h σ H F G _ S ⟨fun σ' H' ρ' F' S' s q => q σ' H' F' G D S' (w.step s), w.rt, w.bk, w.ct⟩)
/-- weaker ends -/
theorem Sm.mono {K' : K3} (h : Sm X ρ st K) (h1 : ∀ ρ, K.nx ρ → K'.nx ρ) (h2 : ∀ t, K.rt t → K'.rt t) (h3 : ∀ ρ, K.bk ρ → K'.bk ρ) (h4 : ∀ ρ, K.ct ρ → K'.ct ρ) : Sm X ρ st K' := fun σ H F G D S w =>
  h σ H F G D S ⟨fun σ' H' ρ' F' S' s q => w.nx σ' H' ρ' F' S' s (h1 _ q), fun v H' t E r n a s q => w.rt v H' t E r n a s (h2 _ q), fun σ' H' ρ' F' S' s q => w.bk σ' H' ρ' F' S' s (h3 _ q), fun σ' H' ρ' F' S' s q => w.ct σ' H' ρ' F' S' s (h4 _ q)⟩
/-- a slot gets another tree -/
theorem S3.put {KF : PySem.W.Frag} {G F E : List Addr} {H H' : Hp} {σ : L2.St} {v : V} (S : S3 KF G σ H ρ F) (r : Res KF (F ++ G) H H' v t E) (i : Nat) : ∃ F', S3 KF G (σ.set i (some v)) H' (ρ.set i (some t)) F' ∧ Stp G F F' H H' := by
  by_cases hi : i < ρ.length
  · obtain ⟨F1, F2, F3, e, f⟩ := S.ro.put i hi
    have nd := S.nd
    have hE : ∀ a ∈ E, a ∉ F ++ G := apart S.fs r.fr
    have sub : ∀ a ∈ (F1 ++ (E ++ F3)) ++ G, a ∈ F ++ G ∨ H a = none := fun a ha => by
      rw [e]
      simp only [List.mem_append] at ha ⊢
      rcases ha with (z | z | z) | z
      · exact .inl (.inl (.inl z))
      · exact .inr (r.fr a z)
      · exact .inl (.inl (.inr (.inr z)))
      · exact .inl (.inr z)
    refine ⟨F1 ++ (E ++ F3), ⟨f (some v) _ _ (some t) E (del_new r.sm sub) (.of r.sm) (r.rt.less (del_sub fun a ha => ?_)), ?_, fun a ha => ?_⟩, ⟨del_new r.sm sub, .of r.sm⟩⟩
    · rw [e]
      simp only [List.mem_append] at ha ⊢
      rcases ha with (z | z | z) | z
      · exact .inr (.inl (.inl z))
      · exact .inl z
      · exact .inr (.inl (.inr (.inr z)))
      · exact .inr (.inr z)
    · subst e
      simp only [List.nodup_append, List.mem_append] at nd hE ⊢
      obtain ⟨⟨n1, ⟨n2, n3, n4⟩, n5⟩, n6, n7⟩ := nd
      refine ⟨⟨n1, ⟨r.nd, n3, fun a ha b hb z => hE a ha (.inl (.inr (.inr (z ▸ hb))))⟩, fun a ha b hb z => ?_⟩, n6, fun a ha b hb z => ?_⟩
      · rcases hb with hb | hb
        · exact hE b hb (.inl (.inl (z ▸ ha)))
        · exact n5 a ha b (.inr hb) z
      · rcases ha with ha | ha | ha
        · exact n7 a (.inl ha) b hb z
        · exact hE a ha (.inr (z ▸ hb))
        · exact n7 a (.inr (.inr ha)) b hb z
    · obtain ⟨o, q⟩ := S.gs a ha
      exact ⟨o, r.sm _ _ q⟩
  · refine ⟨F, ?_, .of r.sm⟩
    rw [List.set_eq_of_length_le (show σ.length ≤ i by rw [S.ro.len]; omega), List.set_eq_of_length_le (show ρ.length ≤ i by omega)]
    exact S.sm r.sm
def isComp : Expr → Bool
  | .ListComp .. => true
  | .SetComp .. => true
  | .DictComp .. => true
  | _ => false
theorem sw_no {e : Expr} {t : Option Expr} {l : Nat} {env : Env} (h : isComp e = false) : swapsWith e t l env = pure false := by
  cases e <;> first | rfl | cases h
/-- x = e -/
theorem Sm.set (hX : XF M N sc fc k X) (i : Nat) (he : Ev X ρ e t) (h : K.nx (ρ.set i (some t))) (hN : N[i]? = some x := by rfl) (hl : locB sc fc x = true := by decide +kernel)
    (hs : swapsWith e (some (.Name x p)) pos.line X.env = pure false := by exact sw_no rfl) : Sm X ρ (.Assign [.Name x p] e pos) K := fun σ H F G D S w => by
  obtain ⟨l1, l2⟩ := hX.loc hl
  exact bestS.of (ps_set (by rw [hX.n]; exact hX.nd) (by rw [hX.n]; exact hN) l1 pe_best hs l2) (he σ H F G _ S fun v H' E r => by
    obtain ⟨F', S', s⟩ := S.put r i
    exact w.nx _ H' _ F' S' s h)
theorem Sm.expr (he : Ev X ρ e t) (h : K.nx ρ) (hs : swapsWith e none pos.line X.env = pure false := by exact sw_no rfl) : Sm X ρ (.Expr e pos) K := fun σ H F G D S w =>
  bestS.of (ps_expr pe_best hs) (he σ H F G _ S fun v H' E r => w.nx σ H' ρ F (S.sm r.sm) (.of r.sm) h)
theorem Sm.ret (he : Ev X ρ e t) (h : K.rt t) : Sm X ρ (.Return (some e) pos) K := fun σ H F G D S w =>
  bestS.of (ps_ret pe_best) (he σ H F G _ S fun v H' E r => w.rt v H' t E (r.rt.less (del_sub fun a ha => by
    simp only [List.mem_append] at ha ⊢
    rcases ha with z | z
    · exact .inl z
    · exact .inr (.inr z))) r.nd (fun a ha z => apart S.fs r.fr a ha (List.mem_append_right _ z)) ⟨del_new r.sm fun a ha => by
      rcases List.mem_append.mp ha with z | z
      · exact .inr (r.fr a z)
      · exact .inl (List.mem_append_right _ z), .of r.sm⟩ h)
/-- return x, x with its own nodes -/
theorem Sm.retV (hX : XF M N sc fc k X) (i : Nat) (h : K.rt t) (hr : ρ[i]? = some (some t) := by rfl) (hN : N[i]? = some x := by rfl) (hv : visB sc x = true := by decide +kernel) : Sm X ρ (.Return (some (.Name x p)) pos) K := fun σ H F G D S w => by
  obtain ⟨h1, h2, h3⟩ := visB_ok hv
  obtain ⟨v, F1, F2, F3, e1, r, e2, _⟩ := S.ro.get hr
  have sub : ∀ a ∈ F2 ++ G, a ∈ F ++ G := fun a ha => by
    rw [e2]
    simp only [List.mem_append] at ha ⊢
    rcases ha with z | z
    · exact .inl (.inr (.inl z))
    · exact .inr z
  have nd := S.nd
  rw [e2] at nd
  simp only [List.nodup_append, List.mem_append] at nd
  refine bestS.of (ps_ret (pe_var (by rw [hX.n]; exact hN) (by rw [hX.s]; exact h1) h2 h3)) ⟨v, e1, w.rt v H t F2 (r.less (del_sub sub)) nd.1.2.1.1 (fun a ha z => nd.2.2 a (.inr (.inl ha)) a z rfl) ⟨del_sub sub, fun a _ o q => q⟩ h⟩
theorem Sm.retN (h : K.rt (.sh .non)) : Sm X ρ (.Return none pos) K := fun σ H F G D S w =>
  bestS.of ps_retN (w.rt .non H (.sh .non) [] (.sh .non) List.nodup_nil (fun a z => nomatch z) ⟨del_sub fun a ha => List.mem_append_right _ ha, fun a _ o q => q⟩ h)
theorem Sm.ife {q : Bool} {A B : List Stmt} (hc : Te X ρ c q) (ha : q = true → Ss X ρ A K) (hb : q = false → Ss X ρ B K) : Sm X ρ (.If c A B pos) K := fun σ H F G D S w =>
  bestS.of (ps_if pt_best pss_best pss_best) (hc σ H F G _ S fun H' s => by
    cases q with
    | true =>
      rw [if_pos rfl]
      exact ha rfl σ H' F G D (S.sm s) (w.step (.of s))
    | false =>
      rw [if_neg Bool.false_ne_true]
      exact hb rfl σ H' F G D (S.sm s) (w.step (.of s)))
/-- a state with fewer own nodes -/
theorem Ss.weak {ρ' : Rho} (h : Ss X ρ' rest K) (q : ∀ (G : List Addr) (σ : L2.St) (H : Hp) (F : List Addr), S3 X.K G σ H ρ F → ∃ F', S3 X.K G σ H ρ' F' ∧ Stp G F F' H H) : Ss X ρ rest K := fun σ H F G D S w => by
  obtain ⟨F', S', s⟩ := q G σ H F S
  exact h σ H F' G D S' (w.step s)
/-- the i-th slot's nodes are shared from here on -/
theorem S3.frz {KF : PySem.W.Frag} {G F : List Addr} {H : Hp} {σ : L2.St} (S : S3 KF G σ H ρ F) (i : Nat) (hr : ρ[i]? = some (some t)) : ∃ F', S3 KF G σ H (ρ.set i (some (.sh t.er))) F' ∧ Stp G F F' H H := by
  obtain ⟨v, F1, F2, F3, e1, r, e2, f⟩ := S.ro.get hr
  have nd := S.nd
  rw [e2] at nd
  simp only [List.nodup_append, List.mem_append] at nd
  obtain ⟨⟨n1, ⟨n2, n3, n4⟩, n5⟩, n6, n7⟩ := nd
  have sub : ∀ a ∈ (F1 ++ ([] ++ F3)) ++ G, a ∈ F ++ G := fun a ha => by
    rw [e2]
    simp only [List.mem_append, List.not_mem_nil, false_or] at ha ⊢
    rcases ha with (z | z) | z
    · exact .inl (.inl z)
    · exact .inl (.inr (.inr z))
    · exact .inr z
  have hs : σ.set i (some v) = σ := by
    obtain ⟨l, e⟩ := List.getElem?_eq_some_iff.mp e1
    rw [← e, List.set_getElem_self]
  refine ⟨F1 ++ ([] ++ F3), ⟨?_, ?_, S.gs⟩, ⟨del_sub sub, fun a _ o q => q⟩⟩
  · have := f v (del ((F1 ++ ([] ++ F3)) ++ G) H) H (.sh t.er) [] (del_sub sub) (fun a _ o q => q) (.sh (r.rp (del_sub sub) fun a ha o q => (del_out fun z => ?_).trans q))
    · rw [hs] at this
      exact this
    · simp only [List.mem_append, List.not_mem_nil, false_or] at z
      rcases z with (z | z) | z
      · exact n5 a z a (.inl ha) rfl
      · exact n4 a ha a z rfl
      · exact n7 a (.inr (.inl ha)) a z rfl
  · simp only [List.nodup_append, List.mem_append, List.not_mem_nil, false_or, List.nil_append]
    exact ⟨⟨n1, n3, fun a ha b hb => n5 a ha b (.inr hb)⟩, n6, fun a ha b hb => n7 a (ha.elim .inl fun z => .inr (.inr z)) b hb⟩
theorem Ss.frz (i : Nat) {d : D} (h : Ss X (ρ.set i (some (.sh d))) rest K) (hr : ρ[i]? = some (some t) := by rfl) (hd : t.er = d := by rfl) : Ss X ρ rest K := h.weak fun G σ H F S => hd ▸ S.frz i hr
/-- the i-th slot is forgotten -/
theorem S3.drop {KF : PySem.W.Frag} {G F : List Addr} {H : Hp} {σ : L2.St} (S : S3 KF G σ H ρ F) (i : Nat) : ∃ F', S3 KF G σ H (ρ.set i none) F' ∧ Stp G F F' H H := by
  by_cases hi : i < ρ.length
  · obtain ⟨F1, F2, F3, e2, f⟩ := S.ro.put i hi
    have nd := S.nd
    rw [e2] at nd
    simp only [List.nodup_append, List.mem_append] at nd
    obtain ⟨⟨n1, ⟨n2, n3, n4⟩, n5⟩, n6, n7⟩ := nd
    have sub : ∀ a ∈ (F1 ++ ([] ++ F3)) ++ G, a ∈ F ++ G := fun a ha => by
      rw [e2]
      simp only [List.mem_append, List.not_mem_nil, false_or] at ha ⊢
      rcases ha with (z | z) | z
      · exact .inl (.inl z)
      · exact .inl (.inr (.inr z))
      · exact .inr z
    have hi' : i < σ.length := by rw [S.ro.len]; exact hi
    have hs : σ.set i σ[i] = σ := List.set_getElem_self ..
    refine ⟨F1 ++ ([] ++ F3), ⟨?_, ?_, S.gs⟩, ⟨del_sub sub, fun a _ o q => q⟩⟩
    · have := f σ[i] (del ((F1 ++ ([] ++ F3)) ++ G) H) H none [] (del_sub sub) (fun a _ o q => q) (by cases σ[i] <;> rfl)
      rw [hs] at this
      exact this
    · simp only [List.nodup_append, List.mem_append, List.not_mem_nil, false_or, List.nil_append]
      exact ⟨⟨n1, n3, fun a ha b hb => n5 a ha b (.inr hb)⟩, n6, fun a ha b hb => n7 a (ha.elim .inl fun z => .inr (.inr z)) b hb⟩
  · refine ⟨F, ?_, .refl⟩
    rw [List.set_eq_of_length_le (by omega)]
    exact S
theorem Ss.drop (i : Nat) (h : Ss X (ρ.set i none) rest K) : Ss X ρ rest K := h.weak fun G σ H F S => S.drop i
/-- for tg in iter: body -/
theorem Sm.for {tgt : Tg} (I : Nat → Rho → Prop) (hX : XF M N sc fc k X) (hi : ItF X ρ tg iter ds) (hg : PG X tg (tgt.g X.K)) (hok : ∀ d ∈ ds, tgt.ok d = true) (h0 : I 0 ρ) (hf : ∀ i ρ', I i ρ' → ∀ j ∈ tgt.is, fre ρ' j = true)
    (step : ∀ i d ρ', ds[i]? = some d → I i ρ' → Ss X (tgt.asg d ρ') body { nx := I (i + 1), rt := K.rt, bk := K.nx, ct := I (i + 1) }) (hd : ∀ ρ', I ds.length ρ' → K.nx ρ')
    (hs : ∀ x, foldedSetIterable iter X.env x = pure x := by intro _; rfl) : Sm X ρ (.For tg iter body [] pos) K := fun σ H F G D S w => by
  obtain ⟨wi, pi, hwi⟩ := hi
  refine bestS.of (ps_for hX.hp hX.calm pi hg pss_best hs) (hwi σ H F G _ S fun J H1 s1 hJ => ?_)
  have S1 := S.sm s1
  have w1 := w.step (.of s1)
  let W : Nat → Nat → L2.St → Hp → Prop := fun i m σ' H' => ∃ F' ρ', m = ds.length - i ∧ i ≤ ds.length ∧ S3 X.K G σ' H' ρ' F' ∧ Stp G F F' H1 H' ∧ I i ρ'
  refine ⟨W, ⟨_, F, ρ, rfl, Nat.zero_le _, S1, .refl, h0⟩, ?_⟩
  rintro i m σ2 H2 ⟨F2, ρ2, rfl, hi, S2, st, hI⟩
  have j := hJ H2 (F2 ++ G) st.sh S2.fs
  by_cases hlt : i < ds.length
  · obtain ⟨d, hd'⟩ : ∃ d, ds[i]? = some d := ⟨_, List.getElem?_eq_getElem hlt⟩
    obtain ⟨jg, jy⟩ := j.go i d hd'
    refine .inr ⟨jg, W (i + 1) (ds.length - (i + 1)), fun σ' H' q => ⟨_, by omega, q⟩, fun x H3 y => ?_⟩
    obtain ⟨s3, rx⟩ := jy x H3 y
    refine tgt.run [] (S2.sm s3) rx (hok d (List.mem_of_getElem? hd')) (hf i ρ2 hI) fun σ4 S4 _ => ?_
    have st3 : Stp G F F2 H1 H3 := st.trans (.of s3)
    have w3 := w1.step st3
    exact step i d ρ2 hd' hI σ4 H3 F2 G _ S4 ⟨fun σ' H' ρ' F' S' s q => ⟨F', ρ', rfl, by omega, S', st3.trans s, q⟩, w3.rt, w3.nx, fun σ' H' ρ' F' S' s q => ⟨F', ρ', rfl, by omega, S', st3.trans s, q⟩⟩
  · have e : i = ds.length := by omega
    subst e
    exact .inl ⟨j.stop, w1.nx σ2 H2 ρ2 F2 S2 st (hd ρ2 hI)⟩
/-- while c: body -/
theorem Sm.while (hX : XF M N sc fc k X) (I : Nat → Rho → Prop) (h0 : ∃ m, I m ρ) (hc : ∀ m ρ', I m ρ' → ∃ b : Bool, Te X ρ' c b ∧ (b = true → Ss X ρ' body { nx := fun ρ'' => ∃ m', m' < m ∧ I m' ρ'', rt := K.rt, bk := K.nx, ct := fun ρ'' => ∃ m', m' < m ∧ I m' ρ'' }) ∧ (b = false → K.nx ρ')) : Sm X ρ (.While c body [] pos) K := fun σ H F G D S w => by
  obtain ⟨m0, h0⟩ := h0
  refine bestS.of (ps_while hX.hp pt_best pss_best) ?_
  let W : Nat → L2.St → Hp → Prop := fun m σ' H' => ∃ F' ρ', S3 X.K G σ' H' ρ' F' ∧ Stp G F F' H H' ∧ I m ρ'
  refine ⟨W, ⟨m0, F, ρ, S, .refl, h0⟩, ?_⟩
  rintro m σ2 H2 ⟨F2, ρ2, S2, st, hI⟩
  obtain ⟨b, tc, hb, hn⟩ := hc m ρ2 hI
  refine tc σ2 H2 F2 G _ S2 fun H3 s3 => ?_
  have st3 : Stp G F F2 H H3 := st.trans (.of s3)
  have w3 := w.step st3
  cases b with
  | true =>
    rw [if_pos rfl]
    refine ⟨fun σ' H' => ∃ m', m' < m ∧ W m' σ' H', fun σ' H' z => z, hb rfl σ2 H3 F2 G _ (S2.sm s3) ⟨fun σ' H' ρ' F' S' s ⟨m', l, z⟩ => ⟨m', l, F', ρ', S', st3.trans s, z⟩, w3.rt, w3.nx, fun σ' H' ρ' F' S' s ⟨m', l, z⟩ => ⟨m', l, F', ρ', S', st3.trans s, z⟩⟩⟩
  | false =>
    rw [if_neg Bool.false_ne_true]
    exact w3.nx σ2 H3 ρ2 F2 (S2.sm s3) .refl (hn rfl)
end
/-! ### a def keeps its contract -/
section
variable {M : Md}
theorem RO.start {K : PySem.W.Frag} {R H : Hp} : ∀ {vs : List V} {ds : List D} (n : Nat), Rps K R vs ds → RO K R H (vs.map some ++ List.replicate n none) ((ds.map fun d => some (T.sh d)) ++ List.replicate n none) []
  | [], [], 0, _ => .nil
  | [], [], n + 1, h => .no (RO.start n h)
  | v :: vs, [], _, h => nomatch h
  | [], d :: ds, _, h => nomatch h
  | v :: vs, d :: ds, n, h => by
    cases h with
    | cons h1 h2 => exact RO.yes (F := []) (.sh h1) (RO.start n h2)
theorem Stp.same {G F : List Addr} {H H' : Hp} (s : Stp G [] F H H') : Same H H' := fun b o e => by
  by_cases hb : b ∈ G
  · exact s.kp b hb o e
  · exact (del_some (s.sh b o ((del_out (by simpa using hb)).trans e))).2
/-- the slots at the entry -/
def rho0 (N : List Str) (ds : List D) : Rho := (ds.map fun d => some (T.sh d)) ++ List.replicate (N.length - ds.length) none
theorem def_ok {x qual : Str} {st : Stmt} {f : Addr} {fd : FuncData} {N ps : List Str} {k : Nat} {g : List D → T → Prop} (F : Fun M.K x qual st f fd) (S : FnScope N ps (defScope st)) (hm : M.mg x = some (.ref f)) (hb : Binds M.K fd ps [])
    (len : ∀ ds t, g ds t → ds.length = ps.length) (body : ∀ X ds t, XF M N (defScope st) (fun _ => true) k X → g ds t → Ss X (rho0 N ds) (defBody st) { nx := fun _ => t = .sh .non, rt := fun t' => t' = t }) : DefOk M (k + 1) x g := by
  refine ⟨f, fd, ps, FnG.of0 F S (fun vs H Q E h => ?_) (fun cdv A outer s H vs Q E gd hr h => ?_), hm, F.kp, hb⟩
  · obtain ⟨ds, t, G, h1, _, _, h2, _⟩ := h
    rw [h1.len]
    exact len ds t h2
  · obtain ⟨ds, t, G, h1, hG, nG, h2, q⟩ := h
    refine ⟨_, pss_best, ?_⟩
    have S0 : S3 M.K G (L2.start N vs) H (rho0 N ds) [] := by
      refine ⟨?_, by simpa using nG, hG⟩
      unfold L2.start rho0
      rw [h1.len]
      exact RO.start _ (by simpa using h1)
    refine body _ ds t ⟨rfl, rfl, rfl, rfl, rfl, rfl, rfl, S.nd, rfl, rfl, hr, rfl, gd⟩ h2 _ _ _ _ _ S0 ⟨fun σ' H' ρ' F' S' s e => ?_, fun v H' t' E r n a s e => ?_, fun _ _ _ _ _ _ e => e.elim, fun _ _ _ _ _ _ e => e.elim⟩
    · have e' : t = .sh .non := e
      subst e'
      exact q _ H' [] ⟨s.same, (fun a z => nomatch z), List.nodup_nil, .sh .non⟩
    · have e' : t' = t := e
      subst e'
      refine q v H' E ⟨s.same, fun b hb => ?_, n, r⟩
      cases z : H b with
      | none => rfl
      | some o =>
        have := s.sh b o ((del_out (by simpa using a b hb)).trans z)
        rw [del_in (List.mem_append_left _ hb)] at this
        cases this
end
/-! ### paths into own nodes -/
inductive Sp1 where
  | ix (j : Nat) | fd (n : Str)
def putF (n : Str) (u : T) : List (Str × T) → List (Str × T)
  | [] => []
  | (m, t) :: r => if n == m then (m, u) :: r else (m, t) :: putF n u r
def T.at : List Sp1 → T → Option T
  | [], t => some t
  | .ix j :: π, .lst ts => (ts[j]?).bind (T.at π)
  | .fd n :: π, .obj _ fs => (fs.lookup n).bind (T.at π)
  | _, _ => none
def T.put : List Sp1 → T → T → T
  | [], u, _ => u
  | .ix j :: π, u, .lst ts => match ts[j]? with
    | some s => .lst (ts.set j (T.put π u s))
    | none => .lst ts
  | .fd n :: π, u, .obj C fs => match fs.lookup n with
    | some s => .obj C (putF n (T.put π u s) fs)
    | none => .obj C fs
  | _, _, t => t
/-- the value at the path's end -/
def Vat (H : Hp) : List Sp1 → V → V → Prop
  | [], v, w => v = w
  | .ix j :: π, v, w => ∃ a vs u, v = .ref a ∧ H a = some (.lst vs) ∧ vs[j]? = some u ∧ Vat H π u w
  | .fd n :: π, v, w => ∃ a C dx fs u, v = .ref a ∧ H a = some (.ins C dx fs) ∧ fs.lookup n = some u ∧ Vat H π u w
theorem Vat.inj {H : Hp} : ∀ {π : List Sp1} {v w w' : V}, Vat H π v w → Vat H π v w' → w = w'
  | [], _, _, _, h, h' => h.symm.trans h'
  | .ix j :: π, _, _, _, h, h' => by
    obtain ⟨a, vs, u, rfl, e1, e2, r⟩ := h
    obtain ⟨a', vs', u', e0, e1', e2', r'⟩ := h'
    cases e0
    rw [e1] at e1'
    cases e1'
    rw [e2] at e2'
    cases e2'
    exact Vat.inj r r'
  | .fd n :: π, _, _, _, h, h' => by
    obtain ⟨a, C, dx, vs, u, rfl, e1, e2, r⟩ := h
    obtain ⟨a', C', dx', vs', u', e0, e1', e2', r'⟩ := h'
    cases e0
    rw [e1] at e1'
    cases e1'
    rw [e2] at e2'
    cases e2'
    exact Vat.inj r r'
theorem Vat.sm {H H' : Hp} (s : Same H H') : ∀ {π : List Sp1} {v w : V}, Vat H π v w → Vat H' π v w
  | [], _, _, h => h
  | .ix j :: π, _, _, h => by
    obtain ⟨a, vs, u, rfl, e1, e2, r⟩ := h
    exact ⟨a, vs, u, rfl, s _ _ e1, e2, r.sm s⟩
  | .fd n :: π, _, _, h => by
    obtain ⟨a, C, dx, vs, u, rfl, e1, e2, r⟩ := h
    exact ⟨a, C, dx, vs, u, rfl, s _ _ e1, e2, r.sm s⟩
theorem Vat.app {H : Hp} : ∀ {π π' : List Sp1} {v u w : V}, Vat H π v u → Vat H π' u w → Vat H (π ++ π') v w
  | [], _, _, _, _, h, h' => by
    cases h
    exact h'
  | .ix j :: π, _, _, _, _, h, h' => by
    obtain ⟨a, vs, u, rfl, e1, e2, r⟩ := h
    exact ⟨a, vs, u, rfl, e1, e2, r.app h'⟩
  | .fd n :: π, _, _, _, _, h, h' => by
    obtain ⟨a, C, dx, vs, u, rfl, e1, e2, r⟩ := h
    exact ⟨a, C, dx, vs, u, rfl, e1, e2, r.app h'⟩
section
variable {K : PySem.W.Frag} {R H : Hp}
theorem RTs.hole : ∀ {ts : List T} {vs : List V} {F : List Addr} {j : Nat} {s : T}, RTs K R H vs ts F → ts[j]? = some s → ∃ u F1 F2 F3, vs[j]? = some u ∧ RT K R H u s F2 ∧ F = F1 ++ (F2 ++ F3) ∧
    ∀ (R' H' : Hp) (u' : V) (s' : T) (F2' : List Addr), Same R R' → Keep (F1 ++ F3) H H' → RT K R' H' u' s' F2' → RTs K R' H' (vs.set j u') (ts.set j s') (F1 ++ (F2' ++ F3))
  | [], _, _, _, _, _, h => by simp at h
  | t :: ts, _, _, 0, s, h, e => by
    cases h with
    | @cons v vs _ _ F G h1 h2 =>
      simp at e
      subst e
      refine ⟨v, [], F, G, rfl, h1, rfl, fun R' H' u' s' F2' sm kp r => ?_⟩
      show RTs K R' H' (u' :: vs) (s' :: ts) (F2' ++ G)
      exact .cons r (h2.sm sm kp)
  | t :: ts, _, _, j + 1, s, h, e => by
    cases h with
    | @cons v vs _ _ F G h1 h2 =>
      obtain ⟨u, F1, F2, F3, e1, r, e2, f⟩ := RTs.hole h2 (j := j) (by simpa using e)
      refine ⟨u, F ++ F1, F2, F3, by simpa using e1, r, by rw [e2, List.append_assoc], fun R' H' u' s' F2' sm kp r => ?_⟩
      show RTs K R' H' (v :: vs.set j u') (t :: ts.set j s') ((F ++ F1) ++ (F2' ++ F3))
      rw [List.append_assoc]
      refine .cons (h1.sm sm fun a ha => kp a ?_) (f R' H' u' s' F2' sm (fun a ha => kp a ?_) r)
      · exact List.mem_append_left _ (List.mem_append_left _ ha)
      · rw [List.append_assoc]
        exact List.mem_append_right _ ha
theorem RTf.hole {n : Str} : ∀ {ts : List (Str × T)} {vs : List (Str × V)} {F : List Addr} {s : T}, RTf K R H vs ts F → ts.lookup n = some s → ∃ u F1 F2 F3, vs.lookup n = some u ∧ RT K R H u s F2 ∧ F = F1 ++ (F2 ++ F3) ∧
    ∀ (R' H' : Hp) (s' : T) (F2' : List Addr), Same R R' → Keep (F1 ++ F3) H H' → RT K R' H' u s' F2' → RTf K R' H' vs (putF n s' ts) (F1 ++ (F2' ++ F3))
  | [], _, _, _, _, h => by simp at h
  | (m, t) :: ts, _, _, s, h, e => by
    cases h with
    | @cons _ v vs _ _ F G h1 h2 =>
      cases q : n == m with
      | true =>
        have e' : t = s := by
          simp only [List.lookup_cons, q] at e
          exact Option.some.inj e
        subst e'
        refine ⟨v, [], F, G, by simp only [List.lookup_cons, q], h1, rfl, fun R' H' s' F2' sm kp r => ?_⟩
        unfold putF
        rw [if_pos q]
        show RTf K R' H' ((m, v) :: vs) ((m, s') :: ts) (F2' ++ G)
        exact .cons r (h2.sm sm kp)
      | false =>
        have e' : ts.lookup n = some s := by
          simp only [List.lookup_cons, q] at e
          exact e
        obtain ⟨u, F1, F2, F3, e1, r, e2, f⟩ := RTf.hole h2 e'
        refine ⟨u, F ++ F1, F2, F3, by simp only [List.lookup_cons, q]; exact e1, r, by rw [e2, List.append_assoc], fun R' H' s' F2' sm kp r => ?_⟩
        unfold putF
        rw [if_neg (by rw [q]; exact Bool.false_ne_true)]
        show RTf K R' H' ((m, v) :: vs) ((m, t) :: putF n s' ts) ((F ++ F1) ++ (F2' ++ F3))
        rw [List.append_assoc]
        refine .cons (h1.sm sm fun a ha => kp a ?_) (f R' H' s' F2' sm (fun a ha => kp a ?_) r)
        · exact List.mem_append_left _ (List.mem_append_left _ ha)
        · rw [List.append_assoc]
          exact List.mem_append_right _ ha
theorem set_self {α : Type} {l : List α} {j : Nat} {u : α} (h : l[j]? = some u) : l.set j u = l := by
  obtain ⟨l', e⟩ := List.getElem?_eq_some_iff.mp h
  rw [← e, List.set_getElem_self]
theorem RT.hole : ∀ (π : List Sp1) {v : V} {t : T} {F : List Addr} {u : T}, RT K R H v t F → T.at π t = some u → ∃ w F1 F2 F3, Vat H π v w ∧ RT K R H w u F2 ∧ F = F1 ++ (F2 ++ F3) ∧
    ∀ (R' H' : Hp) (u' : T) (F2' : List Addr), Same R R' → Keep (F1 ++ F3) H H' → RT K R' H' w u' F2' → RT K R' H' v (T.put π u' t) (F1 ++ (F2' ++ F3))
  | [], v, t, F, u, h, e => by
    cases e
    refine ⟨v, [], F, [], rfl, h, by rw [List.append_nil]; rfl, fun R' H' u' F2' _ _ r => ?_⟩
    rw [List.append_nil]
    exact r
  | .ix j :: π, v, t, F, u, h, e => by
    cases h with
    | @lst a vs ts F ha hr =>
      have e' : (ts[j]?).bind (T.at π) = some u := e
      cases q : ts[j]? with
      | none =>
        rw [q] at e'
        cases e'
      | some s =>
        rw [q] at e'
        obtain ⟨w, A1, A2, A3, ew, rw', eF, f⟩ := hr.hole q
        obtain ⟨z, B1, B2, B3, ez, rz, eG, g⟩ := RT.hole π rw' e'
        refine ⟨z, a :: (A1 ++ B1), B2, B3 ++ A3, ⟨a, vs, w, rfl, ha, ew, ez⟩, rz, ?_, fun R' H' u' F2' sm kp r => ?_⟩
        · rw [eF, eG]
          simp only [List.append_assoc, List.cons_append]
        · have g' := g R' H' u' F2' sm (fun b hb => kp b (by
            simp only [List.mem_append, List.mem_cons, List.cons_append] at hb ⊢
            rcases hb with hb | hb
            · exact .inr (.inl (.inr hb))
            · exact .inr (.inr (.inl hb)))) r
          have f' := f R' H' w (T.put π u' s) _ sm (fun b hb => kp b (by
            simp only [List.mem_append, List.mem_cons, List.cons_append] at hb ⊢
            rcases hb with hb | hb
            · exact .inr (.inl (.inl hb))
            · exact .inr (.inr (.inr hb)))) g'
          rw [set_self ew] at f'
          show RT K R' H' (.ref a) (match ts[j]? with
            | some s => .lst (ts.set j (T.put π u' s))
            | none => .lst ts) _
          rw [q]
          have : a :: (A1 ++ B1) ++ (F2' ++ (B3 ++ A3)) = a :: (A1 ++ ((B1 ++ (F2' ++ B3)) ++ A3)) := by simp only [List.append_assoc, List.cons_append]
          rw [this]
          exact .lst (kp a (List.mem_cons_self ..) _ ha) f'
    | _ => cases e
  | .fd n :: π, v, t, F, u, h, e => by
    cases h with
    | @obj a C dx vs ts F ha hr =>
      have e' : (ts.lookup n).bind (T.at π) = some u := e
      cases q : ts.lookup n with
      | none =>
        rw [q] at e'
        cases e'
      | some s =>
        rw [q] at e'
        obtain ⟨w, A1, A2, A3, ew, rw', eF, f⟩ := hr.hole q
        obtain ⟨z, B1, B2, B3, ez, rz, eG, g⟩ := RT.hole π rw' e'
        refine ⟨z, a :: (A1 ++ B1), B2, B3 ++ A3, ⟨a, C, dx, vs, w, rfl, ha, ew, ez⟩, rz, ?_, fun R' H' u' F2' sm kp r => ?_⟩
        · rw [eF, eG]
          simp only [List.append_assoc, List.cons_append]
        · have g' := g R' H' u' F2' sm (fun b hb => kp b (by
            simp only [List.mem_append, List.mem_cons, List.cons_append] at hb ⊢
            rcases hb with hb | hb
            · exact .inr (.inl (.inr hb))
            · exact .inr (.inr (.inl hb)))) r
          have f' := f R' H' (T.put π u' s) _ sm (fun b hb => kp b (by
            simp only [List.mem_append, List.mem_cons, List.cons_append] at hb ⊢
            rcases hb with hb | hb
            · exact .inr (.inl (.inl hb))
            · exact .inr (.inr (.inr hb)))) g'
          show RT K R' H' (.ref a) (match ts.lookup n with
            | some s => .obj C (putF n (T.put π u' s) ts)
            | none => .obj C ts) _
          rw [q]
          have : a :: (A1 ++ B1) ++ (F2' ++ (B3 ++ A3)) = a :: (A1 ++ ((B1 ++ (F2' ++ B3)) ++ A3)) := by simp only [List.append_assoc, List.cons_append]
          rw [this]
          exact .obj (kp a (List.mem_cons_self ..) _ ha) f'
    | _ => cases e
end
/-- a list within a slot's tree, and what its change makes of the state -/
theorem S3.mut {K : PySem.W.Frag} {G F : List Addr} {H : Hp} {σ : L2.St} {ρ : Rho} {i : Nat} {t : T} {π : List Sp1} {ts : List T} (S : S3 K G σ H ρ F) (hr : ρ[i]? = some (some t)) (ht : T.at π t = some (.lst ts)) :
    ∃ v a vs F2, σ[i]? = some (some v) ∧ Vat H π v (.ref a) ∧ H a = some (.lst vs) ∧ RTs K (del (F ++ G) H) H vs ts F2 ∧ F2.Nodup ∧ (∀ b ∈ F2, b ∈ F) ∧
      ∀ (H2 : Hp) (vs' : List V) (ts' : List T) (F2' : List Addr), Same H H2 → (∀ b ∈ F2', b ∈ F2 ∨ H b = none) → F2'.Nodup → RTs K (del (F2' ++ (F ++ G)) H2) H2 vs' ts' F2' →
        ∃ F', S3 K G σ (upd H2 a (.lst vs')) (ρ.set i (some (T.put π (.lst ts') t))) F' ∧ Stp G F F' H (upd H2 a (.lst vs')) := by
  obtain ⟨v, A1, A2, A3, e1, r, e2, f⟩ := S.ro.get hr
  obtain ⟨w, B1, B2, B3, va, rb, e3, g⟩ := r.hole π ht
  cases rb with
  | @lst a vs _ F2 ha hts =>
    have nd := S.nd
    subst e3 e2
    simp only [List.nodup_append, List.mem_append, List.nodup_cons, List.cons_append, List.mem_cons] at nd
    refine ⟨v, a, vs, F2, e1, va, ha, hts, ?_, fun b hb => by simp only [List.mem_append, List.mem_cons, List.cons_append]; exact .inr (.inl (.inr (.inr (.inl hb)))), fun H2 vs' ts' F2' sm hF nF hR => ?_⟩
    · exact nd.1.2.1.1.2.1.2.1
    · have haF : ∀ b ∈ F2', b ≠ a := fun b hb z => by
        subst z
        rcases hF b hb with z | z
        · exact nd.1.2.1.1.2.1.1 (.inl z)
        · rw [ha] at z
          cases z
      have sub : ∀ b ∈ (A1 ++ ((B1 ++ ((a :: F2') ++ B3)) ++ A3)) ++ G, b ∈ (A1 ++ ((B1 ++ ((a :: F2) ++ B3)) ++ A3)) ++ G ∨ H b = none := fun b hb => by
        simp only [List.mem_append, List.mem_cons, List.cons_append] at hb ⊢
        rcases hb with (z | (z | z | z | z) | z) | z
        · exact .inl (.inl (.inl z))
        · exact .inl (.inl (.inr (.inl (.inl z))))
        · exact .inl (.inl (.inr (.inl (.inr (.inl z)))))
        · rcases hF b z with z | z
          · exact .inl (.inl (.inr (.inl (.inr (.inr (.inl z))))))
          · exact .inr z
        · exact .inl (.inl (.inr (.inl (.inr (.inr (.inr z))))))
        · exact .inl (.inl (.inr (.inr z)))
        · exact .inl (.inr z)
      have smU : ∀ b o, b ≠ a → H b = some o → upd H2 a (.lst vs') b = some o := fun b o hb q => by
        rw [upd_ne hb]
        exact sm b o q
      have sR : Same (del ((A1 ++ ((B1 ++ ((a :: F2) ++ B3)) ++ A3)) ++ G) H) (del ((A1 ++ ((B1 ++ ((a :: F2') ++ B3)) ++ A3)) ++ G) (upd H2 a (.lst vs'))) := fun b o q => by
        obtain ⟨q1, q2⟩ := del_some q
        rw [del_out fun z => (sub b z).elim q1 fun z => by
          rw [q2] at z
          cases z]
        exact smU b o (fun z => q1 (by rw [z]; simp)) q2
      have hne : ∀ b, b ∈ A1 ∨ b ∈ B1 ∨ b ∈ B3 ∨ b ∈ A3 ∨ b ∈ G → b ≠ a := fun b hb z => by
        subst z
        rcases hb with z | z | z | z | z
        · exact nd.1.2.2 b z b (.inl (.inr (.inl rfl))) rfl
        · exact nd.1.2.1.1.2.2 b z b (.inl rfl) rfl
        · exact nd.1.2.1.1.2.1.1 (.inr z)
        · exact nd.1.2.1.2.2 b (.inr (.inl rfl)) b z rfl
        · exact nd.2.2 b (.inr (.inl (.inr (.inl rfl)))) b z rfl
      have hR' : RTs K (del ((A1 ++ ((B1 ++ ((a :: F2') ++ B3)) ++ A3)) ++ G) (upd H2 a (.lst vs'))) (upd H2 a (.lst vs')) vs' ts' F2' := hR.sm (fun b o q => by
          obtain ⟨q1, q2⟩ := del_some q
          have hb : b ≠ a := fun z => q1 (by rw [z]; simp)
          rw [del_out fun z => ?_, upd_ne hb]
          · exact q2
          · simp only [List.mem_append, List.mem_cons, List.cons_append] at z q1
            rcases z with (z | (z | z | z | z) | z) | z
            · exact q1 (.inr (.inl (.inl z)))
            · exact q1 (.inr (.inl (.inr (.inl (.inl z)))))
            · exact hb z
            · exact q1 (.inl z)
            · exact q1 (.inr (.inl (.inr (.inl (.inr (.inr (.inr z)))))))
            · exact q1 (.inr (.inl (.inr (.inr z))))
            · exact q1 (.inr (.inr z))) fun b hb o q => by
        rw [upd_ne (haF b hb)]
        exact q
      refine ⟨A1 ++ ((B1 ++ ((a :: F2') ++ B3)) ++ A3), ⟨?_, ?_, fun b hb => ?_⟩, sR, fun b hb o q => smU b o (hne b (.inr (.inr (.inr (.inr hb))))) q⟩
      · have h1 := g _ (upd H2 a (.lst vs')) (.lst ts') (a :: F2') sR (fun b hb o q => smU b o (hne b ?_) q) (.lst upd_same hR')
        · have h2 := f v _ _ _ _ sR (fun b hb o q => smU b o (hne b ?_) q) h1
          · rw [set_self e1] at h2
            exact h2
          · rcases List.mem_append.mp hb with z | z
            · exact .inl z
            · exact .inr (.inr (.inr (.inl z)))
        · rcases List.mem_append.mp hb with z | z
          · exact .inr (.inl z)
          · exact .inr (.inr (.inl z))
      · have fresh : ∀ b ∈ F2', b ∈ F2 ∨ (b ∉ A1 ∧ b ∉ B1 ∧ b ∉ B3 ∧ b ∉ A3 ∧ b ∉ G) := fun b hb => (hF b hb).elim .inl fun z => .inr (by
          have : b ∉ (A1 ++ ((B1 ++ ((a :: F2) ++ B3)) ++ A3)) ++ G := fun m => by
            obtain ⟨o, q⟩ := S.fs b m
            rw [z] at q
            cases q
          simp only [List.mem_append, List.mem_cons, List.cons_append, not_or] at this
          obtain ⟨⟨h1, ⟨h2, _, _, h3⟩, h4⟩, h5⟩ := this
          exact ⟨h1, h2, h3, h4, h5⟩)
        simp only [List.nodup_append, List.mem_append, List.nodup_cons, List.cons_append, List.mem_cons]
        obtain ⟨⟨n1, ⟨⟨n2, ⟨n3, n4, n5, n6⟩, n7⟩, n8, n9⟩, n10⟩, n11, n12⟩ := nd
        refine ⟨⟨n1, ⟨⟨n2, ⟨fun z => z.elim (fun z => haF a z rfl) fun z => n3 (.inr z), nF, n5, fun x hx y hy e => ?_⟩, fun x hx y hy e => ?_⟩, n8, fun x hx y hy e => ?_⟩, fun x hx y hy e => ?_⟩, n11, fun x hx y hy e => ?_⟩
        · subst e
          exact (fresh x hx).elim (fun z => n6 x z x hy rfl) fun z => z.2.2.1 hy
        · subst e
          rcases hy with z | z | z
          · exact n7 x hx x (.inl z) rfl
          · exact (fresh x z).elim (fun z => n7 x hx x (.inr (.inl z)) rfl) fun z => z.2.1 hx
          · exact n7 x hx x (.inr (.inr z)) rfl
        · subst e
          rcases hx with z | z | z | z
          · exact n9 x (.inl z) x hy rfl
          · exact n9 x (.inr (.inl z)) x hy rfl
          · exact (fresh x z).elim (fun z => n9 x (.inr (.inr (.inl z))) x hy rfl) fun z => z.2.2.2.1 hy
          · exact n9 x (.inr (.inr (.inr z))) x hy rfl
        · subst e
          rcases hy with (z | z | z | z) | z
          · exact n10 x hx x (.inl (.inl z)) rfl
          · exact n10 x hx x (.inl (.inr (.inl z))) rfl
          · exact (fresh x z).elim (fun z => n10 x hx x (.inl (.inr (.inr (.inl z)))) rfl) fun z => z.1 hx
          · exact n10 x hx x (.inl (.inr (.inr (.inr z)))) rfl
          · exact n10 x hx x (.inr z) rfl
        · subst e
          rcases hx with z | (z | z | z | z) | z
          · exact n12 x (.inl z) x hy rfl
          · exact n12 x (.inr (.inl (.inl z))) x hy rfl
          · exact n12 x (.inr (.inl (.inr (.inl z)))) x hy rfl
          · exact (fresh x z).elim (fun z => n12 x (.inr (.inl (.inr (.inr (.inl z))))) x hy rfl) fun z => z.2.2.2.2 hy
          · exact n12 x (.inr (.inl (.inr (.inr (.inr z))))) x hy rfl
          · exact n12 x (.inr (.inr z)) x hy rfl
      · obtain ⟨o, q⟩ := S.gs b hb
        exact ⟨o, smU b o (hne b (.inr (.inr (.inr (.inr hb))))) q⟩
/-- the expression is the node at the path in the slot -/
def Pn (X : Cx) (ρ : Rho) (e : Expr) (i : Nat) (π : List Sp1) : Prop := ∀ (σ : L2.St) (H : Hp) (F G : List Addr) (Q : VK), S3 X.K G σ H ρ F → (∀ v w H1, Same H H1 → σ[i]? = some (some v) → Vat H1 π v w → Q w H1) → best X e σ H Q
section
variable {M : Md} {N : List Str} {sc : Scope} {fc : Str → Bool} {k : Nat} {X : Cx} {ρ : Rho} {e a b c o : Expr} {es : List Expr} {t u : T} {ts : List T} {d : D} {ds ds' : List D} {pos apos p p1 p2 p3 : Pos} {x y : Str} {tg iter elt : Expr} {scope : Scope} {K : K3} {st : Stmt} {rest body : List Stmt} {i : Nat} {π : List Sp1}
theorem nmN (hX : XF M N sc fc k X) (i : Nat) {t : T} (hr : ρ[i]? = some (some t) := by rfl) (hN : N[i]? = some x := by rfl) (hv : visB sc x = true := by decide +kernel) : Pn X ρ (.Name x pos) i [] := by
  obtain ⟨h1, h2, h3⟩ := visB_ok hv
  intro σ H F G Q S kk
  obtain ⟨v, F1, F2, F3, e1, r, e2, _⟩ := S.ro.get hr
  exact best.of (pe_var (by rw [hX.n]; exact hN) (by rw [hX.s]; exact h1) h2 h3) ⟨v, e1, kk v v H (.refl _) e1 rfl⟩
/-- xs[j], a step further -/
theorem Pn.ix {m : Int} {j : Nat} (h : Pn X ρ a i π) (hb : Rd X ρ b (.int m)) (hr : ρ[i]? = some (some t)) (ht : T.at π t = some (.lst ts)) (q : ixN ts.length m = some j) (hu : ts[j]? = some u) (hs : PlainIx b := by intro _ _; rfl) : Pn X ρ (.Subscript a b pos) i (π ++ [.ix j]) := fun σ H F G Q S kk =>
  best.of (pe_ix ix_list pe_best pe_best hs) (h σ H F G _ S fun v w H1 s1 ev va => hb σ H1 F G _ (S.sm s1) fun z H2 s2 r2 => by
    obtain ⟨v', q', vs, F2, e1, va', ha, hts, _⟩ := (S.sm (s1.trans s2)).mut hr ht
    rw [ev] at e1
    cases e1
    have := (va.sm s2).inj va'
    subst this
    obtain ⟨w, F', ew, _, _⟩ := hts.get hu
    refine ⟨q', vs, m, w, rfl, r2.intE, SqL.of ha, ?_, kk v w H2 (s1.trans s2) ev ((va.sm s2).app ⟨q', vs, w, rfl, ha, ew, rfl⟩)⟩
    unfold atI
    rw [hts.len, q]
    exact ew)
theorem RTs.nd {KF : PySem.W.Frag} {R H : Hp} {vs : List V} {F : List Addr} (h : RTs KF R H vs ts F) (j : Nat) {s : T} (hj : ts[j]? = some s) (nd : F.Nodup) {R' H' : Hp} {w : V} {E : List Addr} (sm : Same R R') (kp : Keep F H H') (r : RT KF R' H' w u E) (nE : E.Nodup) (ap : ∀ b ∈ E, b ∉ F) :
    ∃ F', RTs KF R' H' (vs.set j w) (ts.set j u) F' ∧ F'.Nodup ∧ ∀ b ∈ F', b ∈ F ∨ b ∈ E := by
  obtain ⟨_, F1, F2, F3, _, _, e, f⟩ := h.hole hj
  refine ⟨F1 ++ (E ++ F3), f R' H' w u E sm (fun b hb => kp b ?_) r, ?_, fun b hb => ?_⟩
  · rw [e]
    simp only [List.mem_append] at hb ⊢
    exact hb.elim .inl fun z => .inr (.inr z)
  · rw [e] at nd ap
    simp only [List.nodup_append, List.mem_append] at nd ap ⊢
    obtain ⟨n1, ⟨n2, n3, n4⟩, n5⟩ := nd
    refine ⟨n1, ⟨nE, n3, fun x hx y hy z => ap x hx (.inr (.inr (z ▸ hy)))⟩, fun x hx y hy z => ?_⟩
    rcases hy with hy | hy
    · exact ap y hy (.inl (z ▸ hx))
    · exact n5 x hx y (.inr hy) z
  · rw [e]
    simp only [List.mem_append] at hb ⊢
    rcases hb with z | z | z
    · exact .inl (.inl z)
    · exact .inr z
    · exact .inl (.inr (.inr z))
/-- what a call of a built-in type's method asks of its form -/
abbrev MB (X : Cx) (o : Expr) (name : Str) (e : Expr) (es : List Expr) (apos cpos : Pos) : Prop := attributeBase o name X.env (eval o X.env) = eval o X.env ∧
  ((backTo cpos (starEach (e :: es) X.env)).all (fun x => !x.1) && (backToKw cpos (keywordEach [] X.env)).all (fun x => x.1.isSome) && decide ((e :: es).length + ([] : List Keyword).length + (if ([] : List Keyword).isEmpty then 0 else 1) < 30)) = true ∧
  (apos.endLine == cpos.line) = true ∧ starEach (e :: es) X.env = (false, eval e X.env) :: starEach es X.env ∧ (backTo cpos (starEach es X.env)).any (·.1) = false
abbrev MB0 (X : Cx) (o : Expr) (name : Str) (apos cpos : Pos) : Prop := attributeBase o name X.env (eval o X.env) = eval o X.env ∧ (apos.endLine == cpos.line) = true
theorem nd_app {A B : List Addr} (nA : A.Nodup) (nB : B.Nodup) (h : ∀ b ∈ B, b ∉ A) : (A ++ B).Nodup := List.nodup_append.mpr ⟨nA, nB, fun x hx y hy z => h y hy (z ▸ hx)⟩
/-- recv.append(e) -/
theorem Sm.app (hp : Pn X ρ o i π) (he : Ev X ρ e u) (h : K.nx (ρ.set i (some (T.put π (.lst (ts ++ [u])) t)))) (hz : ts.length < sizeLine) (hr : ρ[i]? = some (some t) := by rfl) (ht : T.at π t = some (.lst ts) := by rfl)
    (mb : MB X o "append" e [] apos p := by exact ⟨rfl, rfl, rfl, rfl, rfl⟩) (hs : swapsWith (.Call (.Attribute o "append" apos) [e] [] p) none pos.line X.env = pure false := by exact sw_no rfl) : Sm X ρ (.Expr (.Call (.Attribute o "append" apos) [e] [] p) pos) K := fun σ H F G D S w => by
  obtain ⟨m1, m2, m3, m4, m5⟩ := mb
  refine bestS.of (ps_expr (pe_bm PySem.F.plainAttrs_list PySem.F.slot_list_append PySem.F.type_list_append mt_append pe_best (pa_cons pe_best pa_nil m4) m1 m2 m3 m4 m5) hs) (hp σ H F G _ S fun v z H1 s1 ev va => ?_)
  obtain ⟨v', q', vs, F2, e1, va', ha, hts, nF, hF, up⟩ := (S.sm s1).mut hr ht
  rw [ev] at e1
  cases e1
  have := va.inj va'
  subst this
  refine ⟨.inl ⟨rfl, vs, SqL.of ha⟩, he σ H1 F G _ (S.sm s1) fun y H2 E r => ?_⟩
  have ap : ∀ b ∈ E, b ∉ F ++ G := apart (S.sm s1).fs r.fr
  have k1 : ∀ b ∈ (F2 ++ E) ++ (F ++ G), b ∈ F ++ G ∨ H1 b = none := fun b hb => by
    rcases List.mem_append.mp hb with z | z
    · rcases List.mem_append.mp z with z | z
      · exact .inl (List.mem_append_left _ (hF b z))
      · exact .inr (r.fr b z)
    · exact .inl z
  have k2 : ∀ b ∈ (F2 ++ E) ++ (F ++ G), b ∈ E ++ (F ++ G) := fun b hb => by
    rcases List.mem_append.mp hb with z | z
    · rcases List.mem_append.mp z with z | z
      · exact List.mem_append_right _ (List.mem_append_left _ (hF b z))
      · exact List.mem_append_left _ z
    · exact List.mem_append_right _ z
  obtain ⟨F', S', st⟩ := up H2 (vs ++ [y]) (ts ++ [u]) (F2 ++ E) r.sm (fun b hb => (List.mem_append.mp hb).elim .inl fun z => .inr (r.fr b z)) (nd_app nF r.nd fun b hb z => ap b hb (List.mem_append_left _ (hF b z))) ((hts.sm (del_new r.sm k1) (.of r.sm)).snoc (r.rt.less (del_sub k2)))
  exact ⟨q', vs, y, rfl, rfl, r.sm _ _ ha, by rw [hts.len]; exact hz, w.nx σ _ _ F' S' ((Stp.of s1).trans st) h⟩
/-- recv.extend(ys) -/
theorem Sm.ext (hp : Pn X ρ o i π) (he : Ls X ρ e ds) (h : K.nx (ρ.set i (some (T.put π (.lst (ts ++ ds.map T.sh)) t)))) (hz : ts.length + ds.length ≤ sizeLine) (hr : ρ[i]? = some (some t) := by rfl) (ht : T.at π t = some (.lst ts) := by rfl)
    (mb : MB X o "extend" e [] apos p := by exact ⟨rfl, rfl, rfl, rfl, rfl⟩) (hs : swapsWith (.Call (.Attribute o "extend" apos) [e] [] p) none pos.line X.env = pure false := by exact sw_no rfl) : Sm X ρ (.Expr (.Call (.Attribute o "extend" apos) [e] [] p) pos) K := fun σ H F G D S w => by
  obtain ⟨m1, m2, m3, m4, m5⟩ := mb
  refine bestS.of (ps_expr (pe_bm PySem.F.plainAttrs_list PySem.F.slot_list_extend PySem.F.type_list_extend mt_extend pe_best (pa_cons pe_best pa_nil m4) m1 m2 m3 m4 m5) hs) (hp σ H F G _ S fun v z H1 s1 ev va => ?_)
  obtain ⟨v', q', vs, F2, e1, va', ha, hts, nF, hF, up⟩ := (S.sm s1).mut hr ht
  rw [ev] at e1
  cases e1
  have := va.inj va'
  subst this
  refine ⟨.inl ⟨rfl, vs, SqL.of ha⟩, he σ H1 F G _ (S.sm s1) fun q2 ws H2 s2 e2 r2 => ?_⟩
  have hsub : ∀ b ∈ F2 ++ (F ++ G), b ∈ F ++ G := fun b hb => by
    rcases List.mem_append.mp hb with z | z
    · exact List.mem_append_left _ (hF b z)
    · exact z
  have app : ∀ {ts : List T} {vs : List V} {F : List Addr} {R H : Hp}, RTs X.K R H vs ts F → Rps X.K R ws ds → RTs X.K R H (vs ++ ws) (ts ++ ds.map T.sh) F := by
    intro ts
    induction ts with
    | nil =>
      intro vs F R H h1 h2
      cases h1
      exact RTs.of_sh h2
    | cons t ts ih =>
      intro vs F R H h1 h2
      cases h1 with
      | cons a b => exact .cons a (ih b h2)
  obtain ⟨F', S', st⟩ := up H2 (vs ++ ws) (ts ++ ds.map T.sh) F2 s2 (fun b hb => .inl hb) nF (app (hts.sm (del_new s2 fun b hb => .inl (hsub b hb)) (.of s2)) (r2.sm (del_sub hsub)))
  exact ⟨q', q2, vs, ws, rfl, rfl, s2 _ _ ha, e2, by rw [hts.len, r2.len]; exact hz, w.nx σ _ _ F' S' ((Stp.of s1).trans st) h⟩
/-- what a store to o[i] asks of its form -/
abbrev SB (X : Cx) (o b : Expr) (p : Pos) : Prop := ∀ v, assign (.Subscript o b p) X.env v = (do
      let ov ← holding [v] (eval o X.env)
      let iv ← holding [v, ov] (eval b X.env)
      standAt p
      holding [v, ov, iv] (setItem ov iv v)
      release [v, ov, iv] [])
theorem sw_sub {o b e : Expr} {p : Pos} {l : Nat} {env : Env} : swapsWithSole [.Subscript o b p] e l env = pure false := by
  show swapsWith e (some (.Subscript o b p)) l env = _
  unfold swapsWith
  cases e <;> rfl
/-- o[b] = e -/
theorem Sm.seti {m : Int} {j : Nat} {s : T} (he : Ev X ρ e u) (hp : Pn X ρ o i π) (hb : Rd X ρ b (.int m)) (h : K.nx (ρ.set i (some (T.put π (.lst (ts.set j u)) t)))) (q : ixN ts.length m = some j) (hj : ts[j]? = some s) (hr : ρ[i]? = some (some t) := by rfl) (ht : T.at π t = some (.lst ts) := by rfl)
    (hs : swapsWithSole [.Subscript o b p] e pos.line X.env = pure false := by exact sw_sub) (hw : swappedStores [.Subscript o b p] e X.env = pure none := by rfl) (h1 : (assignEach [.Subscript o b p] X.env).map (·.2) = [assign (.Subscript o b p) X.env] := by rfl) (sb : SB X o b p := by intro _; rfl) : Sm X ρ (.Assign [.Subscript o b p] e pos) K := fun σ H F G D S w => by
  refine bestS.of (ps_asg pe_best (pg_sub pe_best pe_best set_list sb) hs hw h1) (he σ H F G _ S fun y H1 E r => ?_)
  have S1 : S3 X.K (E ++ G) σ H1 ρ F := S.ext r.sm r.fr r.nd r.rt.fs
  refine hp σ H1 F (E ++ G) _ S1 fun v z H2 s2 ev va => hb σ H2 F (E ++ G) _ (S1.sm s2) fun z2 H3 s3 r3 => ?_
  obtain ⟨v', q', vs, F2, e1, va', ha, hts, nF, hF, up⟩ := S.mut hr ht
  rw [ev] at e1
  cases e1
  have := (va.sm s3).inj (va'.sm (r.sm.trans (s2.trans s3)))
  subst this
  have s13 := s2.trans s3
  have s03 := r.sm.trans s13
  have ap : ∀ b ∈ E, b ∉ F ++ G := apart S.fs r.fr
  obtain ⟨F2', hts', nF', sub⟩ := hts.nd (u := u) j hj nF (R' := del ((F2 ++ E) ++ (F ++ G)) H3) (H' := H3) (w := y) (E := E) (del_new s03 fun x hx => by
      rcases List.mem_append.mp hx with z | z
      · rcases List.mem_append.mp z with z | z
        · exact .inl (List.mem_append_left _ (hF x z))
        · exact .inr (r.fr x z)
      · exact .inl z) (.of s03) (r.rt.sm ((del_sm s13).trans (del_sub fun x hx => by
      rcases List.mem_append.mp hx with z | z
      · rcases List.mem_append.mp z with z | z
        · exact List.mem_append_right _ (List.mem_append_left _ (hF x z))
        · exact List.mem_append_left _ z
      · exact List.mem_append_right _ z)) (.of s13)) r.nd fun x hx z => ap x hx (List.mem_append_left _ (hF x z))
  obtain ⟨F', S', st⟩ := up H3 (vs.set j y) (ts.set j u) F2' s03 (fun x hx => (sub x hx).elim .inl fun z => .inr (r.fr x z)) nF' (hts'.less (del_sub fun x hx => by
      rcases List.mem_append.mp hx with z | z
      · rcases sub x z with z | z
        · exact List.mem_append_left _ (List.mem_append_left _ z)
        · exact List.mem_append_left _ (List.mem_append_right _ z)
      · exact List.mem_append_right _ z))
  exact ⟨q', vs, m, j, rfl, r3.intE, s03 _ _ ha, by rw [hts.len]; exact q, w.nx σ _ _ F' S' st h⟩
theorem get_list {X : Cx} : PGet X (rIxL X.K) := by
  intro pins s σ H x y v u Q I rx ry h
  obtain ⟨p, xs, i, z, rfl, rfl, hq, he, q⟩ := h
  cases rx
  obtain ⟨t, rfl⟩ := ry
  obtain ⟨its, r, pl, hz⟩ := I.list hq
  obtain ⟨j, h1, h2, h3, h4, h5⟩ := atI_get he
  obtain ⟨w, ew, rw'⟩ := r.get h2
  have hl := r.length
  have hn := line63
  have fin : EP X pins σ Q w s := ⟨z, H, I, rw', q⟩
  by_cases h0 : 0 ≤ i
  · have hj : i.toNat = j := by
      rw [seqIndex_of h0 h5] at h1
      exact Option.some.inj h1
    exact wpAny_getItem_list pl.isList h0 (by omega) (by rw [hj]; simpa using ew) fin
  · have hj : (i + (its.toArray.size : Int)).toNat = j := by
      rw [seqIndex_neg (by omega) h4] at h1
      rw [List.size_toArray, ← hl]
      exact Option.some.inj h1
    exact wpAny_getItem_list_neg pl.isList (by omega) (by rw [List.size_toArray] <;> omega) (by omega) (by rw [hj]; simpa using ew) fin
/-- o[b] += e, numbers -/
theorem Sm.augi {m z n : Int} {j : Nat} {op : Operator} {g : Int → Int → Int} (hip : PIp X op (ipI g)) (hp : Pn X ρ o i π) (hb : Rd X ρ b (.int m)) (he : Rd X ρ e (.int n)) (h : K.nx (ρ.set i (some (T.put π (.lst (ts.set j (.sh (.int (g z n))))) t)))) (q : ixN ts.length m = some j) (hj : ts[j]? = some (.sh (.int z))) (hr : ρ[i]? = some (some t) := by rfl) (ht : T.at π t = some (.lst ts) := by rfl)
    (ha : ∀ ov iv new, augStore b ov iv new = (do holding [new, ov, iv] (setItem ov iv new); release [new, ov, iv] []; pure .next) := by intros; rfl) : Sm X ρ (.AugAssign (.Subscript o b p) op e pos) K := fun σ H F G D S w => by
  refine bestS.of (ps_augS pe_best pe_best get_list pe_best hip set_list ha) (hp σ H F G _ S fun v z1 H1 s1 ev va => hb σ H1 F G _ (S.sm s1) fun z2 H2 s2 r2 => ?_)
  have s12 := s1.trans s2
  obtain ⟨v', q', vs, F2, e1, va', hq, hts, nF, hF, up⟩ := (S.sm s12).mut hr ht
  rw [ev] at e1
  cases e1
  have := (va.sm s2).inj va'
  subst this
  obtain ⟨w1, F3, ew, _, rw1⟩ := hts.get hj
  have ew' : w1 = .int z := by
    cases rw1 with
    | sh rw1 => exact rw1.intE
  subst ew'
  refine ⟨q', vs, m, .int z, rfl, r2.intE, SqL.of hq, ?_, he σ H2 F G _ (S.sm s12) fun z3 H3 s3 r3 => ⟨z, n, rfl, r3.intE, ?_⟩⟩
  · unfold atI
    rw [hts.len, q]
    exact ew
  · obtain ⟨F2', hts', nF', sub⟩ := hts.nd (u := .sh (.int (g z n))) j hj nF (R' := del (F2 ++ (F ++ G)) H3) (H' := H3) (w := .int (g z n)) (E := []) (del_new s3 fun x hx => by
        rcases List.mem_append.mp hx with z | z
        · exact .inl (List.mem_append_left _ (hF x z))
        · exact .inl z) (.of s3) (.sh (.int _)) List.nodup_nil fun x hx => nomatch hx
    have sub' : ∀ x ∈ F2', x ∈ F2 := fun x hx => (sub x hx).elim id fun z => nomatch z
    obtain ⟨F', S', st⟩ := up H3 (vs.set j (.int (g z n))) (ts.set j (.sh (.int (g z n)))) F2' s3 (fun x hx => .inl (sub' x hx)) nF' (hts'.less (del_sub fun x hx => by
        rcases List.mem_append.mp hx with z | z
        · exact List.mem_append_left _ (sub' x z)
        · exact List.mem_append_right _ z))
    exact ⟨q', vs, m, j, rfl, r2.intE, s3 _ _ hq, by rw [hts.len]; exact q, w.nx σ _ _ F' S' ((Stp.of s12).trans st) h⟩
/-- x op= e, numbers -/
theorem Sm.aug {z n : Int} {op : Operator} {g : Int → Int → Int} (hX : XF M N sc fc k X) (i : Nat) (hip : PIp X op (ipI g)) (he : Rd X ρ e (.int n)) (h : K.nx (ρ.set i (some (.sh (.int (g z n)))))) (hr : ρ[i]? = some (some (.sh (.int z))) := by rfl) (hN : N[i]? = some x := by rfl) (hl : locB sc fc x = true := by decide +kernel)
    (hd : (x == ("__debug__" : Str)) = false := by decide) : Sm X ρ (.AugAssign (.Name x p) op e pos) K := fun σ H F G D S w => by
  obtain ⟨l1, l2⟩ := hX.loc hl
  obtain ⟨v, F1, F2, F3, e1, r, e2, _⟩ := S.ro.get hr
  have ev : v = .int z := by
    cases r with
    | sh r => exact r.intE
  subst ev
  refine bestS.of (ps_aug (i := i) (by rw [hX.n]; exact hX.nd) (by rw [hX.n]; exact hN) l1 pe_best hip l2) ⟨.int z, e1, he σ H F G _ S fun y H1 s1 r1 => ⟨z, n, rfl, r1.intE, ?_⟩⟩
  obtain ⟨F', S', st⟩ := S.put (t := .sh (.int (g z n))) (v := .int (g z n)) (E := []) (H' := H1) ⟨s1, (fun a z => nomatch z), List.nodup_nil, .sh (.int _)⟩ i
  exact w.nx _ H1 _ F' S' st h
end
/-- a datum's built-in class -/
def tyD : D → Option String
  | .non => some "NoneType"
  | .bl _ => some "bool"
  | .int _ => some "int"
  | .str _ => some "str"
  | .lst _ => some "list"
  | .tup _ => some "tuple"
  | .dic _ => some "dict"
  | .wit _ _ => some "int"
  | .frT _ _ => some "list"
  | _ => none
theorem tyD_of {K : PySem.W.Frag} {H : Hp} {v : V} {d : D} {n : String} (r : Rp K H v d) (h : tyD d = some n) : TyX K H v (.type n) := by
  cases r with
  | non => cases h; exact .base .non
  | bl b => cases h; exact .base (.bl b)
  | int b => cases h; exact .base (.int b)
  | str b => cases h; exact .base (.str b)
  | ty _ => cases h
  | «at» _ => cases h
  | lst e _ => cases h; exact .base (.lst e)
  | tup e _ =>
    cases h
    rcases e with (e | ⟨o, e⟩) | ⟨o, its, m, e, c, _⟩
    · exact .base (.tup e)
    · exact .fTuple e
    · exact .kTuple e c
  | obj _ _ => cases h
  | dic e _ => cases h; exact .base (.dK e)
  | wit _ => cases h; exact .base (.int _)
  | dicL _ _ => cases h
  | frT _ q =>
    cases h
    obtain ⟨a, vs, e, h1, _⟩ := q
    subst e
    exact .base (.lst (hid_le _ _ h1))
section
variable {M : Md} {N : List Str} {sc : Scope} {fc : Str → Bool} {k : Nat} {X : Cx} {ρ : Rho} {e a b c o : Expr} {es : List Expr} {t u : T} {ts : List T} {d : D} {ds ds' : List D} {pos apos p p1 p2 p3 pt pt2 : Pos} {x y : Str} {tg iter elt : Expr} {scope : Scope} {K : K3} {st : Stmt} {rest body : List Stmt} {i : Nat} {π : List Sp1}
/-- a built-in class as a value -/
theorem e_ty (hX : XF M N sc fc k X) {n : String} (hm : M.mg x = none) (hv : bootBuiltins x = some (.type n)) (hn : x ≠ "__name__" := by decide) (hg : glB sc x = true := by decide +kernel) : Ev X ρ (.Name x p) (.sh (.ty n)) := by
  obtain ⟨h1, h2⟩ := hX.gl hg
  exact Ev.of_sc (pe_bltn h1 (by rw [hX.m]; exact hm) hv (v := .ty n) rfl hn h2) trivial fun σ H F G Q S k => k _ H (.refl _) (.ty n)
/-- isinstance(x, int), .. -/
theorem e_isi {n n' : String} {q : Bool} (hX : XF M N sc fc k X) (hm : M.mg "isinstance" = none) (hm2 : M.mg x = none) (hv : bootBuiltins x = some (.type n')) (ha : Rd X ρ a d) (hd : tyD d = some n) (hk : kitB n n' = some q) (hs : starEach (a :: [.Name x p2]) X.env = (false, eval a X.env) :: starEach [.Name x p2] X.env := by rfl)
    (hn : x ≠ "__name__" := by decide) (hg : glB sc "isinstance" = true := by decide +kernel) (hg2 : glB sc x = true := by decide +kernel) : Ev X ρ (.Call (.Name "isinstance" p) [a, .Name x p2] [] pos) (.sh (.bl q)) :=
  callB hX call_isi hg hm (by decide +kernel) (by decide) trivial (.cons ha (.one (Ev.rd (e_ty hX hm2 hv hn hg2)) rfl) hs) (fun vs H Q r kk => by
    obtain ⟨v, w, rfl, r1, r2⟩ := r.two
    have : w = .ty n' := by
      cases r2
      rfl
    subst this
    exact ⟨v, .ty n', .type n, .type n', q, rfl, .ty n', tyD_of r1 hd, kit_ty hk, kk _ (.bl _)⟩) hs rfl
/-! ### two names at once -/
def env0 (sc : Scope) : Env := { (default : Env) with scope := sc }
theorem swapped_eq {ts : List Expr} {v : Expr} {env : Env} : swappedStores ts v env = swappedStores ts v (env0 env.scope) := rfl
/-- others' nodes become a slot's -/
theorem S3.putE {KF : PySem.W.Frag} {G F E : List Addr} {H : Hp} {σ : L2.St} {v : V} (S : S3 KF (E ++ G) σ H ρ F) (r : RT KF (del (E ++ (F ++ G)) H) H v t E) (i : Nat) : ∃ F', S3 KF G (σ.set i (some v)) H (ρ.set i (some t)) F' ∧ ∀ a ∈ F', a ∈ F ∨ a ∈ E := by
  have nd := S.nd
  by_cases hi : i < ρ.length
  · obtain ⟨F1, F2, F3, e, f⟩ := S.ro.put i hi
    subst e
    simp only [List.nodup_append, List.mem_append] at nd
    obtain ⟨⟨n1, ⟨n2, n3, n4⟩, n5⟩, ⟨n6, n7, n8⟩, n9⟩ := nd
    refine ⟨F1 ++ (E ++ F3), ⟨f (some v) _ _ (some t) E (del_sub fun a ha => ?_) (fun a _ o q => q) (r.less (del_sub fun a ha => ?_)), ?_, fun a ha => S.gs a (List.mem_append_right _ ha)⟩, fun a ha => ?_⟩
    · simp only [List.mem_append] at ha ⊢
      rcases ha with (z | z | z) | z
      · exact .inl (.inl z)
      · exact .inr (.inl z)
      · exact .inl (.inr (.inr z))
      · exact .inr (.inr z)
    · simp only [List.mem_append] at ha ⊢
      rcases ha with (z | z | z) | z
      · exact .inr (.inl (.inl z))
      · exact .inl z
      · exact .inr (.inl (.inr (.inr z)))
      · exact .inr (.inr z)
    · simp only [List.nodup_append, List.mem_append]
      refine ⟨⟨n1, ⟨n6, n3, fun a ha b hb z => n9 b (.inr (.inr hb)) a (.inl ha) z.symm⟩, fun a ha b hb z => ?_⟩, n7, fun a ha b hb z => ?_⟩
      · rcases hb with hb | hb
        · exact n9 a (.inl ha) b (.inl hb) z
        · exact n5 a ha b (.inr hb) z
      · rcases ha with ha | ha | ha
        · exact n9 a (.inl ha) b (.inr hb) z
        · exact n8 a ha b hb z
        · exact n9 a (.inr (.inr ha)) b (.inr hb) z
    · simp only [List.mem_append] at ha ⊢
      rcases ha with z | z | z
      · exact .inl (.inl z)
      · exact .inr z
      · exact .inl (.inr (.inr z))
  · refine ⟨F, ⟨?_, ?_, fun a ha => S.gs a (List.mem_append_right _ ha)⟩, fun a ha => .inl ha⟩
    · rw [List.set_eq_of_length_le (show σ.length ≤ i by rw [S.ro.len]; omega), List.set_eq_of_length_le (show ρ.length ≤ i by omega)]
      exact S.ro.sm (del_sub fun a ha => (List.mem_append.mp ha).elim (List.mem_append_left _) fun z => List.mem_append_right _ (List.mem_append_right _ z)) fun a _ o q => q
    · simp only [List.nodup_append, List.mem_append] at nd ⊢
      exact ⟨nd.1, nd.2.1.2.1, fun a ha b hb => nd.2.2 a ha b (.inr hb)⟩
/-- two slots get trees -/
theorem S3.put2 {KF : PySem.W.Frag} {G F E : List Addr} {H H' : Hp} {σ : L2.St} {v w : V} (S : S3 KF G σ H ρ F) (r : ResA KF (F ++ G) H H' [v, w] [t, u] E) (i j : Nat) : ∃ F', S3 KF G ((σ.set i (some v)).set j (some w)) H' ((ρ.set i (some t)).set j (some u)) F' ∧ Stp G F F' H H' := by
  obtain ⟨sm, fr, nd, rt⟩ := r
  have so := rt.fs
  cases rt with
  | @cons _ _ _ _ E1 E2' a1 a2 =>
    cases a2 with
    | @cons _ _ _ _ E2 E3 a2 a3 =>
      cases a3
      simp only [List.append_nil] at fr nd so a1 a2
      have S0 := S.ext sm fr nd so
      rw [List.append_assoc] at S0
      obtain ⟨F1, S1, m1⟩ := S0.putE (a1.less (del_sub fun a ha => by
        simp only [List.mem_append] at ha ⊢
        rcases ha with z | z | z | z
        · exact .inl (.inl z)
        · exact .inr (.inl z)
        · exact .inl (.inr z)
        · exact .inr (.inr z))) i
      obtain ⟨F2, S2, m2⟩ := S1.putE (a2.less (del_sub fun a ha => by
        simp only [List.mem_append] at ha ⊢
        rcases ha with z | z | z
        · exact .inl (.inr z)
        · exact (m1 a z).elim (fun z => .inr (.inl z)) fun z => .inl (.inl z)
        · exact .inr (.inr z))) j
      refine ⟨F2, S2, ⟨del_new sm fun a ha => ?_, .of sm⟩⟩
      rcases List.mem_append.mp ha with z | z
      · rcases m2 a z with z | z
        · rcases m1 a z with z | z
          · exact .inl (List.mem_append_left _ z)
          · exact .inr (fr a (List.mem_append_left _ z))
        · exact .inr (fr a (List.mem_append_right _ z))
      · exact .inl (List.mem_append_right _ z)
theorem S3.put3 {KF : PySem.W.Frag} {G F E : List Addr} {H H' : Hp} {σ : L2.St} {v w z : V} {s : T} (S : S3 KF G σ H ρ F) (r : ResA KF (F ++ G) H H' [v, w, z] [t, u, s] E) (i j l : Nat) : ∃ F', S3 KF G (((σ.set i (some v)).set j (some w)).set l (some z)) H' (((ρ.set i (some t)).set j (some u)).set l (some s)) F' ∧ Stp G F F' H H' := by
  obtain ⟨sm, fr, nd, rt⟩ := r
  have so := rt.fs
  cases rt with
  | @cons _ _ _ _ E1 E2' a1 a2 =>
    cases a2 with
    | @cons _ _ _ _ E2 E3 a2 a3 =>
      cases a3 with
      | @cons _ _ _ _ E3 E4 a3 a4 =>
        cases a4
        simp only [List.append_nil] at fr nd so a1 a2 a3
        have S0 := S.ext sm fr nd so
        rw [List.append_assoc, List.append_assoc] at S0
        obtain ⟨F1, S1, m1⟩ := S0.putE (a1.less (del_sub fun a ha => by
          simp only [List.mem_append] at ha ⊢
          rcases ha with z | z | z | z | z
          · exact .inl (.inl z)
          · exact .inr (.inl z)
          · exact .inl (.inr (.inl z))
          · exact .inl (.inr (.inr z))
          · exact .inr (.inr z))) i
        obtain ⟨F2, S2, m2⟩ := S1.putE (a2.less (del_sub fun a ha => by
          simp only [List.mem_append] at ha ⊢
          rcases ha with z | z | z | z
          · exact .inl (.inr (.inl z))
          · exact (m1 a z).elim (fun z => .inr (.inl z)) fun z => .inl (.inl z)
          · exact .inl (.inr (.inr z))
          · exact .inr (.inr z))) j
        obtain ⟨F3, S3', m3⟩ := S2.putE (a3.less (del_sub fun a ha => by
          simp only [List.mem_append] at ha ⊢
          rcases ha with z | z | z
          · exact .inl (.inr (.inr z))
          · rcases m2 a z with z | z
            · exact (m1 a z).elim (fun z => .inr (.inl z)) fun z => .inl (.inl z)
            · exact .inl (.inr (.inl z))
          · exact .inr (.inr z))) l
        refine ⟨F3, S3', ⟨del_new sm fun a ha => ?_, .of sm⟩⟩
        rcases List.mem_append.mp ha with z | z
        · rcases m3 a z with z | z
          · rcases m2 a z with z | z
            · rcases m1 a z with z | z
              · exact .inl (List.mem_append_left _ z)
              · exact .inr (fr a (List.mem_append_left _ z))
            · exact .inr (fr a (List.mem_append_right _ (List.mem_append_left _ z)))
          · exact .inr (fr a (List.mem_append_right _ (List.mem_append_right _ z)))
        · exact .inl (List.mem_append_right _ z)
/-- x, y = a, b: both are the def's own names -/
theorem Sm.par {kt k2 : Nat} (hX : XF M N sc fc k X) (i j : Nat) (ha : EvA X ρ [a, b] [t, u]) (h : K.nx ((ρ.set i (some t)).set j (some u)))
    (hw : swappedStores [.Tuple [.Name x p1, .Name y p2] kt pt] (.Tuple [a, b] k2 pt2) (env0 sc) = pure (some [x, y]) := by rfl) (hN : N[i]? = some x := by rfl) (hN2 : N[j]? = some y := by rfl) (hl : sc.names.lookup x = some .local := by decide +kernel) (hl2 : sc.names.lookup y = some .local := by decide +kernel) (hij : i ≠ j := by decide)
    (hs : swapsWithSole [.Tuple [.Name x p1, .Name y p2] kt pt] (.Tuple [a, b] k2 pt2) pos.line X.env = pure false := by rfl) : Sm X ρ (.Assign [.Tuple [.Name x p1, .Name y p2] kt pt] (.Tuple [a, b] k2 pt2) pos) K := fun σ H F G D S w => by
  refine bestS.of (ps_par (i := i) (j := j) hX.calm (by rw [hX.n]; exact hX.nd) (by rw [hX.n]; exact hN) (by rw [hX.n]; exact hN2) hij (by rw [hX.s]; exact hl) (by rw [hX.s]; exact hl2) pa_best (by rw [swapped_eq, hX.s]; exact hw) hs) (ha σ H F G _ S fun vs H' E r => ?_)
  have rt := r.rt
  cases rt with
  | cons a1 a2 =>
    cases a2 with
    | cons a2 a3 =>
      cases a3
      obtain ⟨F', S', st⟩ := S.put2 r i j
      exact ⟨_, _, rfl, w.nx _ H' _ F' S' st h⟩
/-- (x, y) = e, the two a tuple's items; or one of x, y is not just the def's own name -/
theorem Sm.unp {tgt : Tg} (he : Ev X ρ e (.sh d)) (hg : PG X tg (tgt.g X.K)) (hok : tgt.ok d = true) (h : K.nx (tgt.asg d ρ)) (f : ∀ i ∈ tgt.is, fre ρ i = true)
    (hs : swapsWithSole [tg] e pos.line X.env = pure false := by rfl) (hw : swappedStores [tg] e X.env = pure none := by rfl) (h1 : (assignEach [tg] X.env).map (·.2) = [assign tg X.env] := by rfl) : Sm X ρ (.Assign [tg] e pos) K := fun σ H F G D S w =>
  bestS.of (ps_asg pe_best hg hs hw h1) (he σ H F G _ S fun v H' E r => by
    have r' := r.rt
    cases r' with
    | sh r' => exact tgt.run [] (S.sm r.sm) r' hok f fun σ' S' _ => w.nx σ' H' _ F S' (.of r.sm) h)
/-- x = [elt for ..] on one line, x the def's own name -/
theorem Sm.lc {own : List (Str × Nat)} {tgt : Tg} {ifs : List Expr} {us : List (Option T)} (hX : XF M N sc fc k X) (i : Nat) (hi : ItC X ρ tg iter ds) (ok : blkC N sc scope own = true) (hg : ∀ X', Blk X scope X' → PG X' tg (tgt.g X.K))
    (hf : ∀ i ∈ own.map (·.2), fre ρ i = true) (hv : ∀ i ∈ tgt.is, i ∈ own.map (·.2)) (hl : us.length = ds.length) (hz : ds.length ≤ sizeLine) (hok : ∀ d ∈ ds, tgt.ok d = true)
    (step : ∀ (i : Nat) (d : D) (u : Option T) (X' : Cx), Blk X scope X' → ds[i]? = some d → us[i]? = some u → Tf X' (tgt.asg d (wipeR ρ (own.map (·.2)))) ifs u.isSome ∧ ∀ t, u = some t → Ev X' (tgt.asg d (wipeR ρ (own.map (·.2)))) elt t)
    (h : K.nx (ρ.set i (some (.lst (us.filterMap id))))) (hN : N[i]? = some x) (hy : sc.names.lookup x = some .local) (hll : (p.line == pos.line) = true) (hn : (scope.names.any fun (n, k) => n == x && (k == .local || k == .cell)) = false) (hk : sc.kind = .function)
    (hs : ∀ x, foldedSetIterable iter X.env x = pure x := by intro _; rfl) : Sm X ρ (.Assign [.Name x p] (.ListComp elt [⟨tg, iter, ifs, 0⟩] scope pos) apos) K := by
  obtain ⟨wi, pi, hwi⟩ := hi
  refine fun σ H F G D S w => bestS.of (ps_setLc (i := i) hX.calm (by rw [hX.n]; exact hX.nd) (by rw [hX.n]; exact hN) (by rw [hX.s]; exact hy) (sw_true (by rw [hX.s]; exact hk) (by rw [hX.s]; exact hy) hll hn) pi (blk_of hX ok) (fun s H C cl fp => hg _ ⟨s, H, C, cl, fp, rfl⟩) (fun s H C cl fp => blk_pts s H C cl fp) (fun s H C cl fp => blk_pe s H C cl fp) hs)
    (lc_tLc hwi hf hv hl hz hok step S fun v H' E r => ?_)
  obtain ⟨F', S', st⟩ := S.put r i
  exact w.nx _ H' _ F' S' st h
theorem Sm.lcN {α : Type} {xs : List α} {en : α → D} {g : α → T} (hX : XF M N sc fc k X) (j i : Nat) (hi : ItC X ρ (.Name y p2) iter (xs.map en))
    (step : ∀ X', Blk X scope X' → XF M N (relS scope sc) (fcB scope) k X' → ∀ a ∈ xs, Ev X' (ρ.set i (some (.sh (en a)))) elt (g a)) (hz : xs.length ≤ sizeLine) (h : K.nx (ρ.set j (some (.lst (xs.map g)))))
    (ok : blkC N sc scope [(y, i)] = true := by decide +kernel) (hN : N[i]? = some y := by rfl) (hl : locB (relS scope sc) (fcB scope) y = true := by decide +kernel) (f : fre ρ i = true := by rfl)
    (hNx : N[j]? = some x := by rfl) (hy : sc.names.lookup x = some .local := by decide +kernel) (hll : (p.line == pos.line) = true := by rfl) (hn : (scope.names.any fun (n, k) => n == x && (k == .local || k == .cell)) = false := by decide +kernel) (hk : sc.kind = .function := by rfl)
    (hs : ∀ x, foldedSetIterable iter X.env x = pure x := by intro _; rfl) : Sm X ρ (.Assign [.Name x p] (.ListComp elt [⟨.Name y p2, iter, [], 0⟩] scope pos) apos) K := by
  obtain ⟨h1, h2, h3⟩ := one_hyps (own := [(y, i)]) (ρ := ρ) rfl f
  refine Sm.lc (own := [(y, i)]) (tgt := .one i) (ifs := []) (us := xs.map fun a => some (g a)) hX j hi ok (fun X' b => (hX.blk b).pg1 i hN hl) h1 h2 (by rw [List.length_map, List.length_map]) (by rw [List.length_map]; exact hz) (fun _ _ => rfl) (fun j d u X' b hd hu => by
    obtain ⟨a, e1, m, rfl⟩ := map_at hd
    obtain ⟨a', e2, _, rfl⟩ := map_at hu
    rw [e1] at e2
    cases e2
    rw [h3]
    refine ⟨Tf.nil, fun t q => ?_⟩
    cases q
    exact step X' b (hX.blk b) a m) (by rw [fm_some]; exact h) hNx hy hll hn hk hs
theorem Sm.lcF {α : Type} {xs : List α} {en : α → D} {g : α → T} {q : α → Bool} {cond : Expr} (hX : XF M N sc fc k X) (j i : Nat) (hi : ItC X ρ (.Name y p2) iter (xs.map en))
    (step : ∀ X', Blk X scope X' → XF M N (relS scope sc) (fcB scope) k X' → ∀ a ∈ xs, Te X' (ρ.set i (some (.sh (en a)))) cond (q a) ∧ (q a = true → Ev X' (ρ.set i (some (.sh (en a)))) elt (g a))) (hz : xs.length ≤ sizeLine) (h : K.nx (ρ.set j (some (.lst ((xs.filter q).map g)))))
    (ok : blkC N sc scope [(y, i)] = true := by decide +kernel) (hN : N[i]? = some y := by rfl) (hl : locB (relS scope sc) (fcB scope) y = true := by decide +kernel) (f : fre ρ i = true := by rfl)
    (hNx : N[j]? = some x := by rfl) (hy : sc.names.lookup x = some .local := by decide +kernel) (hll : (p.line == pos.line) = true := by rfl) (hn : (scope.names.any fun (n, k) => n == x && (k == .local || k == .cell)) = false := by decide +kernel) (hk : sc.kind = .function := by rfl)
    (hs : ∀ x, foldedSetIterable iter X.env x = pure x := by intro _; rfl) : Sm X ρ (.Assign [.Name x p] (.ListComp elt [⟨.Name y p2, iter, [cond], 0⟩] scope pos) apos) K := by
  obtain ⟨h1, h2, h3⟩ := one_hyps (own := [(y, i)]) (ρ := ρ) rfl f
  refine Sm.lc (own := [(y, i)]) (tgt := .one i) (ifs := [cond]) (us := xs.map fun a => if q a then some (g a) else none) hX j hi ok (fun X' b => (hX.blk b).pg1 i hN hl) h1 h2 (by rw [List.length_map, List.length_map]) (by rw [List.length_map]; exact hz) (fun _ _ => rfl) (fun j d u X' b hd hu => by
    obtain ⟨a, e1, m, rfl⟩ := map_at hd
    obtain ⟨a', e2, _, rfl⟩ := map_at hu
    rw [e1] at e2
    cases e2
    rw [h3]
    obtain ⟨s1, s2⟩ := step X' b (hX.blk b) a m
    cases hq : q a with
    | true =>
      rw [if_pos rfl]
      rw [hq] at s1
      refine ⟨Tf.one s1, fun t z => ?_⟩
      cases z
      exact s2 hq
    | false =>
      rw [if_neg Bool.false_ne_true]
      rw [hq] at s1
      exact ⟨Tf.one s1, fun t z => nomatch z⟩) (by rw [fm_filter]; exact h) hNx hy hll hn hk hs
theorem Sm.lcZ {α : Type} {xs : List α} {en en' : α → D} {g : α → T} {kk : Nat} {tpos : Pos} {z : Str} (hX : XF M N sc fc k X) (l i j : Nat) (hi : ItC X ρ (.Tuple [.Name x p1, .Name y p2] kk tpos) iter (xs.map fun a => .tup [en a, en' a]))
    (step : ∀ X', Blk X scope X' → XF M N (relS scope sc) (fcB scope) k X' → ∀ a ∈ xs, Ev X' ((ρ.set i (some (.sh (en a)))).set j (some (.sh (en' a)))) elt (g a)) (hz : xs.length ≤ sizeLine) (h : K.nx (ρ.set l (some (.lst (xs.map g)))))
    (ok : blkC N sc scope [(x, i), (y, j)] = true := by decide +kernel) (hN : N[i]? = some x := by rfl) (hl : locB (relS scope sc) (fcB scope) x = true := by decide +kernel) (hN2 : N[j]? = some y := by rfl) (hl2 : locB (relS scope sc) (fcB scope) y = true := by decide +kernel) (f : fre ρ i = true := by rfl) (f2 : fre ρ j = true := by rfl) (hij : i ≠ j := by decide)
    (hNx : N[l]? = some z := by rfl) (hy : sc.names.lookup z = some .local := by decide +kernel) (hll : (p.line == pos.line) = true := by rfl) (hn : (scope.names.any fun (n, k) => n == z && (k == .local || k == .cell)) = false := by decide +kernel) (hk : sc.kind = .function := by rfl)
    (hs : ∀ x, foldedSetIterable iter X.env x = pure x := by intro _; rfl) : Sm X ρ (.Assign [.Name z p] (.ListComp elt [⟨.Tuple [.Name x p1, .Name y p2] kk tpos, iter, [], 0⟩] scope pos) apos) K := by
  obtain ⟨h1, h2, h3⟩ := two_hyps (own := [(x, i), (y, j)]) (ρ := ρ) rfl hij f f2
  refine Sm.lc (own := [(x, i), (y, j)]) (tgt := .tup [i, j]) (ifs := []) (us := xs.map fun a => some (g a)) hX l hi ok (fun X' b => (hX.blk b).pg2 i j hN hl hN2 hl2 (by obtain ⟨s, H, C, cl, fp, rfl⟩ := b; rfl)) h1 h2 (by rw [List.length_map, List.length_map]) (by rw [List.length_map]; exact hz) (fun d hd => by
      obtain ⟨a, _, rfl⟩ := List.mem_map.mp hd
      rfl) (fun j d u X' b hd hu => by
    obtain ⟨a, e1, m, rfl⟩ := map_at hd
    obtain ⟨a', e2, _, rfl⟩ := map_at hu
    rw [e1] at e2
    cases e2
    rw [h3]
    refine ⟨Tf.nil, fun t q => ?_⟩
    cases q
    exact step X' b (hX.blk b) a m) (by rw [fm_some]; exact h) hNx hy hll hn hk hs
end
/-! ### rows and tables of numbers -/
abbrev dR (xs : List Int) : D := .lst (xs.map D.int)
abbrev dT (t : List (List Int)) : D := .lst (t.map dR)
abbrev tI (i : Int) : T := .sh (.int i)
abbrev tR (xs : List Int) : T := .lst (xs.map tI)
abbrev tT (t : List (List Int)) : T := .lst (t.map tR)
theorem ers_mapG {α : Type} (f : α → T) (g : α → D) (h : ∀ a, (f a).er = g a) : ∀ xs : List α, T.ers (xs.map f) = xs.map g
  | [] => rfl
  | x :: xs => by
    show (f x).er :: T.ers (xs.map f) = _
    rw [h, ers_mapG f g h xs]
    rfl
theorem er_tR (xs : List Int) : (tR xs).er = dR xs := congrArg D.lst (ers_mapG _ _ (fun _ => rfl) xs)
theorem er_tT (t : List (List Int)) : (tT t).er = dT t := congrArg D.lst (ers_mapG _ _ er_tR t)
theorem own_map {α : Type} {f : α → T} (h : ∀ a, Own (f a)) (xs : List α) : Own (.lst (xs.map f)) := .lst fun t ht => by
  obtain ⟨a, _, rfl⟩ := List.mem_map.mp ht
  exact h a
theorem own_tR (xs : List Int) : Own (tR xs) := own_map (fun a => Own.sh (d := .int a) trivial) xs
theorem own_tT (t : List (List Int)) : Own (tT t) := own_map own_tR t
theorem ok_dR (xs : List Int) : Ok 1 (dR xs) := ok_map (n := 0) fun _ => ok_int
theorem ok_dT (t : List (List Int)) : Ok 2 (dT t) := ok_map (n := 1) ok_dR
theorem pys_map {α : Type} (f : α → D) : ∀ xs : List α, pys (xs.map f) = xs.map fun a => py (f a)
  | [] => rfl
  | x :: xs => by
    show py (f x) :: pys (xs.map f) = _
    rw [pys_map f xs]
    rfl
theorem eqvAll_map {α : Type} [DecidableEq α] (f : α → D) (h : ∀ a b, eqb (f a) (f b) = decide (a = b)) : ∀ xs ys : List α, PyData.eqvAll (pys (xs.map f)) (pys (ys.map f)) = decide (xs = ys)
  | [], [] => by simp [pys, PyData.eqvAll]
  | [], y :: ys => by simp [pys, PyData.eqvAll]
  | x :: xs, [] => by simp [pys, PyData.eqvAll]
  | x :: xs, y :: ys => by
    show PyData.eqvAll (py (f x) :: pys (xs.map f)) (py (f y) :: pys (ys.map f)) = _
    rw [PyData.eqvAll, eqvAll_map f h xs ys]
    have := h x y
    unfold eqb at this
    rw [this]
    by_cases h1 : x = y <;> by_cases h2 : xs = ys <;> simp [h1, h2]
theorem eqb_lst (xs ys : List D) : eqb (.lst xs) (.lst ys) = PyData.eqvAll (pys xs) (pys ys) := by
  show PyData.eqv (.list (pys xs)) (.list (pys ys)) = _
  simp only [PyData.eqv]
theorem eqb_tup (xs ys : List D) : eqb (.tup xs) (.tup ys) = PyData.eqvAll (pys xs) (pys ys) := by
  show PyData.eqv (.tuple (pys xs)) (.tuple (pys ys)) = _
  simp only [PyData.eqv]
theorem eqb_int (i j : Int) : eqb (.int i) (.int j) = decide (i = j) := by
  show PyData.eqv (.int i) (.int j) = _
  simp only [PyData.eqv]
  exact Bool.beq_eq_decide_eq ..
theorem eqb_bl (i j : Bool) : eqb (.bl i) (.bl j) = decide (i = j) := by
  show PyData.eqv (.bool i) (.bool j) = _
  simp only [PyData.eqv]
  exact Bool.beq_eq_decide_eq ..
theorem eqb_map {α : Type} [DecidableEq α] (f : α → D) (h : ∀ a b, eqb (f a) (f b) = decide (a = b)) (xs ys : List α) : eqb (.lst (xs.map f)) (.lst (ys.map f)) = decide (xs = ys) := by
  rw [eqb_lst, eqvAll_map f h]
theorem eqb_dR (xs ys : List Int) : eqb (dR xs) (dR ys) = decide (xs = ys) := eqb_map _ eqb_int xs ys
theorem eqb_dT (s t : List (List Int)) : eqb (dT s) (dT t) = decide (s = t) := eqb_map _ eqb_dR s t
theorem eqvAll_cons (x y : D) (xs ys : List D) : PyData.eqvAll (pys (x :: xs)) (pys (y :: ys)) = (eqb x y && PyData.eqvAll (pys xs) (pys ys)) := by
  show PyData.eqvAll (py x :: pys xs) (py y :: pys ys) = _
  rw [PyData.eqvAll]
  rfl
theorem eqvAll_nil : PyData.eqvAll (pys []) (pys []) = true := by
  show PyData.eqvAll [] [] = true
  rw [PyData.eqvAll]
section
variable {M : Md} {N : List Str} {sc : Scope} {fc : Str → Bool} {k : Nat} {X : Cx} {ρ : Rho} {e a b c o : Expr} {es : List Expr} {t u : T} {ts : List T} {d : D} {ds ds' : List D} {pos apos p p1 p2 p3 pt pt2 : Pos} {x y : Str} {tg iter elt : Expr} {scope : Scope} {K : K3} {st : Stmt} {rest body : List Stmt} {i : Nat} {π : List Sp1}
/-- a shared name, to look at -/
theorem nmS (hX : XF M N sc fc k X) (i : Nat) (hr : ρ[i]? = some (some (.sh d)) := by rfl) (hN : N[i]? = some x := by rfl) (hv : visB sc x = true := by decide +kernel) : Rd X ρ (.Name x pos) d := (nm hX i hr hN hv).rd
/-- a name with own nodes, to look at -/
theorem nmO (hX : XF M N sc fc k X) (i : Nat) {t : T} (hr : ρ[i]? = some (some t)) (hd : t.er = d) (hN : N[i]? = some x := by rfl) (hv : visB sc x = true := by decide +kernel) : Rd X ρ (.Name x pos) d := hd ▸ nmR hX i hr hN hv
theorem ItC.rng {j : Int} {n : Nat} (hj : j = n) (h : ItC X ρ tg iter (rngD 0 j.toNat)) : ItC X ρ tg iter ((List.range n).map fun (i : Nat) => D.int (i : Int)) := by
  subst hj
  unfold rngD at h
  simpa using h
theorem ItF.rng {j : Int} {n : Nat} (hj : j = n) (h : ItF X ρ tg iter (rngD 0 j.toNat)) : ItF X ρ tg iter ((List.range n).map fun (i : Nat) => D.int (i : Int)) := by
  subst hj
  unfold rngD at h
  simpa using h
/-- range(n), n a natural number -/
theorem itRange {n : Nat} (hX : XF M N sc fc k X) (hm : M.mg "range" = none) (ha : Rd X ρ a (.int n)) (h2 : (n : Int) < 2 ^ 62) (hs : starEach (a :: []) X.env = (false, eval a X.env) :: starEach [] X.env := by rfl) (hg : glB sc "range" = true := by decide +kernel) :
    ItF X ρ tg (.Call (.Name "range" p) [a] [] pos) ((List.range n).map fun (i : Nat) => D.int (i : Int)) := ItF.rng rfl (ItF.range1 hX hm ha (by omega) h2 hs hg)
theorem itZipC {α β : Type} {f : α → D} {g : β → D} {xs : List α} {ys : List β} {elts : List Expr} {kk : Nat} {tpos : Pos} (hX : XF M N sc fc k X) (hm : M.mg "zip" = none) (ha : Ls X ρ a (xs.map f)) (hb : Ls X ρ b (ys.map g)) (hs : starEach (a :: [b]) X.env = (false, eval a X.env) :: starEach [b] X.env := by rfl) (hs2 : starEach (b :: []) X.env = (false, eval b X.env) :: starEach [] X.env := by rfl)
    (hpl : (backTo pos (starEach [b] X.env)).any (·.1) = false := by rfl) (hg : glB sc "zip" = true := by decide +kernel) : ItC X ρ (.Tuple elts kk tpos) (.Call (.Name "zip" p) [a, b] [] pos) ((xs.zip ys).map fun q => .tup [f q.1, g q.2]) := by
  have := ItC.zip (elts := elts) (kk := kk) (tpos := tpos) (p := p) hX hm ha hb hs hs2 hpl hg
  rw [zip_map] at this
  exact this
theorem itZip {α β : Type} {f : α → D} {g : β → D} {xs : List α} {ys : List β} {elts : List Expr} {kk : Nat} {tpos : Pos} (hX : XF M N sc fc k X) (hm : M.mg "zip" = none) (ha : Ev X ρ a (.sh (.lst (xs.map f)))) (hb : Ev X ρ b (.sh (.lst (ys.map g)))) (hs : starEach (a :: [b]) X.env = (false, eval a X.env) :: starEach [b] X.env := by rfl) (hs2 : starEach (b :: []) X.env = (false, eval b X.env) :: starEach [] X.env := by rfl)
    (hpl : (backTo pos (starEach [b] X.env)).any (·.1) = false := by rfl) (hg : glB sc "zip" = true := by decide +kernel) : ItF X ρ (.Tuple elts kk tpos) (.Call (.Name "zip" p) [a, b] [] pos) ((xs.zip ys).map fun q => .tup [f q.1, g q.2]) := by
  have := ItF.zip (elts := elts) (kk := kk) (tpos := tpos) (p := p) hX hm ha hb hs hs2 hpl hg
  rw [zip_map] at this
  exact this
theorem atI_map {α β : Type} {f : α → β} {xs : List α} {i : Int} {v : α} (h : atI xs i = some v) : atI (xs.map f) i = some (f v) := by
  unfold atI at h ⊢
  rw [List.length_map]
  cases q : ixN xs.length i with
  | none =>
    rw [q] at h
    cases h
  | some j =>
    rw [q] at h
    have h' : xs[j]? = some v := h
    show (xs.map f)[j]? = _
    rw [List.getElem?_map, h']
    rfl
/-- for x in iter over typed data -/
theorem Sm.forN {α : Type} {xs : List α} {en : α → D} (I : Nat → Rho → Prop) (hX : XF M N sc fc k X) (i : Nat) (hi : ItF X ρ (.Name x p) iter (xs.map en)) (h0 : I 0 ρ) (hf : ∀ j ρ', I j ρ' → fre ρ' i = true)
    (step : ∀ j a ρ', xs[j]? = some a → I j ρ' → Ss X (ρ'.set i (some (.sh (en a)))) body { nx := I (j + 1), rt := K.rt, bk := K.nx, ct := I (j + 1) }) (hd : ∀ ρ', I xs.length ρ' → K.nx ρ')
    (hN : N[i]? = some x := by rfl) (hl : locB sc fc x = true := by decide +kernel) (hs : ∀ x, foldedSetIterable iter X.env x = pure x := by intro _; rfl) : Sm X ρ (.For (.Name x p) iter body [] pos) K :=
  Sm.for (tgt := .one i) I hX hi (hX.pg1 i hN hl) (fun _ _ => rfl) h0 (fun j ρ' h l hl => by rw [List.mem_singleton.mp hl]; exact hf j ρ' h) (fun j d ρ' hd hI => by
    obtain ⟨a, e, _, rfl⟩ := map_at hd
    exact step j a ρ' e hI) (by rw [List.length_map]; exact hd) hs
theorem Sm.forZ {α : Type} {xs : List α} {en en' : α → D} {kk : Nat} {tpos : Pos} (I : Nat → Rho → Prop) (hX : XF M N sc fc k X) (i l : Nat) (hi : ItF X ρ (.Tuple [.Name x p1, .Name y p2] kk tpos) iter (xs.map fun a => .tup [en a, en' a])) (h0 : I 0 ρ) (hf : ∀ j ρ', I j ρ' → fre ρ' i = true ∧ fre ρ' l = true)
    (step : ∀ j a ρ', xs[j]? = some a → I j ρ' → Ss X ((ρ'.set i (some (.sh (en a)))).set l (some (.sh (en' a)))) body { nx := I (j + 1), rt := K.rt, bk := K.nx, ct := I (j + 1) }) (hd : ∀ ρ', I xs.length ρ' → K.nx ρ')
    (hN : N[i]? = some x := by rfl) (hl : locB sc fc x = true := by decide +kernel) (hN2 : N[l]? = some y := by rfl) (hl2 : locB sc fc y = true := by decide +kernel) (hs : ∀ x, foldedSetIterable iter X.env x = pure x := by intro _; rfl) : Sm X ρ (.For (.Tuple [.Name x p1, .Name y p2] kk tpos) iter body [] pos) K :=
  Sm.for (tgt := .tup [i, l]) I hX hi (hX.pg2 i l hN hl hN2 hl2 rfl) (fun d hd => by
    obtain ⟨a, _, rfl⟩ := List.mem_map.mp hd
    rfl) h0 (fun j ρ' h m hm => by
      obtain ⟨h1, h2⟩ := hf j ρ' h
      rcases List.mem_cons.mp hm with e | e
      · rw [e]
        exact h1
      · rw [List.mem_singleton.mp e]
        exact h2) (fun j d ρ' hd hI => by
    obtain ⟨a, e, _, rfl⟩ := map_at hd
    exact step j a ρ' e hI) (by rw [List.length_map]; exact hd) hs
theorem Ss.consP (P : Rho → Prop) (h : Sm X ρ st { K with nx := P }) (h2 : ∀ ρ', P ρ' → Ss X ρ' rest K) : Ss X ρ (st :: rest) K := Ss.cons (h.mono (fun ρ' q => h2 ρ' q) (fun _ q => q) (fun _ q => q) fun _ q => q)
/-- all, any, sum of a comprehension -/
theorem e_allC {α : Type} {xs : List α} {f : α → Bool} (hX : XF M N sc fc k X) (hm : M.mg "all" = none) (h : Ev X ρ e (.lst (xs.map fun a => .sh (.bl (f a))))) (hs : starEach (e :: []) X.env = (false, eval e X.env) :: starEach [] X.env := by rfl) (hg : glB sc "all" = true := by decide +kernel) : Ev X ρ (.Call (.Name "all" p) [e] [] pos) (.sh (.bl (xs.all f))) := by
  have h' := e_all (bs := xs.map f) (p := p) (pos := pos) hX hm (h.rd' (by rw [T.er, ers_mapG _ (fun a => D.bl (f a)) (fun _ => rfl), List.map_map]; rfl)) hs hg
  rw [List.all_map] at h'
  exact h'
theorem e_anyC {α : Type} {xs : List α} {f : α → Bool} (hX : XF M N sc fc k X) (hm : M.mg "any" = none) (h : Ev X ρ e (.lst (xs.map fun a => .sh (.bl (f a))))) (hs : starEach (e :: []) X.env = (false, eval e X.env) :: starEach [] X.env := by rfl) (hg : glB sc "any" = true := by decide +kernel) : Ev X ρ (.Call (.Name "any" p) [e] [] pos) (.sh (.bl (xs.any f))) := by
  have h' := e_any (bs := xs.map f) (p := p) (pos := pos) hX hm (h.rd' (by rw [T.er, ers_mapG _ (fun a => D.bl (f a)) (fun _ => rfl), List.map_map]; rfl)) hs hg
  rw [List.any_map] at h'
  exact h'
theorem e_sumC {α : Type} {xs : List α} {f : α → Int} (hX : XF M N sc fc k X) (hm : M.mg "sum" = none) (h : Ev X ρ e (.lst (xs.map fun a => .sh (.int (f a))))) (hs : starEach (e :: []) X.env = (false, eval e X.env) :: starEach [] X.env := by rfl) (hg : glB sc "sum" = true := by decide +kernel) : Ev X ρ (.Call (.Name "sum" p) [e] [] pos) (.sh (.int (xs.map f).sum)) :=
  e_sum (ns := xs.map f) (p := p) (pos := pos) hX hm (h.rd' (by rw [T.er, ers_mapG _ (fun a => D.int (f a)) (fun _ => rfl), List.map_map]; rfl)) hs hg
theorem Ev.cast {t' : T} (h : Ev X ρ e t) (q : t = t') : Ev X ρ e t' := q ▸ h
theorem Rd.cast {d' : D} (h : Rd X ρ e d) (q : d = d') : Rd X ρ e d' := q ▸ h
theorem Ev.rdI {i : Int} (h : Ev X ρ e (.sh (.int i))) : Rd X ρ e (.int i) := h.rd
end
/-- a def of the module, by its text -/
def FnE (M : Md) (x : Str) (st : Stmt) (ps : List Str) : Prop := ∃ (f : Addr) (fd : FuncData), Fun M.K x x st f fd ∧ M.mg x = some (.ref f) ∧ Binds M.K fd ps []
theorem def_okE {M : Md} {x : Str} {st : Stmt} {N ps : List Str} {k : Nat} {g : List D → T → Prop} (F : FnE M x st ps) (S : FnScope N ps (defScope st)) (len : ∀ ds t, g ds t → ds.length = ps.length)
    (body : ∀ X ds t, XF M N (defScope st) (fun _ => true) k X → g ds t → Ss X (rho0 N ds) (defBody st) { nx := fun _ => t = .sh .non, rt := fun t' => t' = t }) : DefOk M (k + 1) x g := by
  obtain ⟨f, fd, F, hm, hb⟩ := F
  exact def_ok F S hm hb len body
theorem DefOk.imp {M : Md} {k : Nat} {x : Str} {g g' : List D → T → Prop} (h : DefOk M k x g) (q : ∀ ds t, g' ds t → g ds t) : DefOk M k x g' := by
  obtain ⟨f, fd, ps, F, hm, hk, hb⟩ := h
  exact ⟨f, fd, ps, F.imp fun vs H Q E ⟨ds, t, G, h1, h2, h3, h4, h5⟩ => ⟨ds, t, G, h1, h2, h3, q ds t h4, h5⟩, hm, hk, hb⟩
section
variable {M : Md} {N : List Str} {sc : Scope} {fc : Str → Bool} {k : Nat} {X : Cx} {ρ : Rho} {e a b c o : Expr} {es : List Expr} {t u : T} {ts : List T} {d : D} {ds ds' : List D} {pos apos p p1 p2 p3 pt pt2 : Pos} {x y : Str} {tg iter elt : Expr} {scope : Scope} {K : K3} {st : Stmt} {rest body : List Stmt} {i : Nat} {π : List Sp1}
/-- a look at a slot's own nodes as if they were shared: what comes has nothing of them -/
theorem Ev.peek (i : Nat) {d : D} (h : Ev X (ρ.set i (some (.sh d))) e u) (ho : Own u) (hr : ρ[i]? = some (some t) := by rfl) (hd : t.er = d := by rfl) : Ev X ρ e u := fun σ H F G Q S k => by
  subst hd
  obtain ⟨F', S', st⟩ := S.frz i hr
  exact h σ H F' G Q S' fun v H' E r => k v H' E ⟨r.sm, r.fr, r.nd, ho.rt _ _ r.rt⟩
theorem Te.peek {q : Bool} (i : Nat) {d : D} (h : Te X (ρ.set i (some (.sh d))) e q) (hr : ρ[i]? = some (some t) := by rfl) (hd : t.er = d := by rfl) : Te X ρ e q := fun σ H F G Q S k => by
  subst hd
  obtain ⟨F', S', st⟩ := S.frz i hr
  exact h σ H F' G Q S' k
theorem S3.lessG {KF : PySem.W.Frag} {G F A : List Addr} {H : Hp} {σ : L2.St} (S : S3 KF (A ++ G) σ H ρ F) : S3 KF G σ H ρ F := by
  have nd := S.nd
  simp only [List.nodup_append, List.mem_append] at nd
  refine ⟨S.ro.sm (del_sub fun a ha => ?_) fun a _ o q => q, ?_, fun a ha => S.gs a (List.mem_append_right _ ha)⟩
  · exact (List.mem_append.mp ha).elim (List.mem_append_left _) fun z => List.mem_append_right _ (List.mem_append_right _ z)
  · simp only [List.nodup_append]
    exact ⟨nd.1, nd.2.1.2.1, fun a ha b hb => nd.2.2 a ha b (.inr hb)⟩
/-- the same wish with more nodes of others -/
theorem Wish.more {G F F' A : List Addr} {H : Hp} {D : Ends} (w : Wish X K G F H D) (h : ∀ a ∈ F' ++ (A ++ G), a ∈ F ++ G) : Wish X K (A ++ G) F' H D := by
  have hs : ∀ {F2 : List Addr} {H' : Hp}, Stp (A ++ G) F' F2 H H' → Stp G F F2 H H' := fun s =>
    ⟨(del_sub h).trans (s.sh.trans (del_sub fun a ha => (List.mem_append.mp ha).elim (List.mem_append_left _) fun z => List.mem_append_right _ (List.mem_append_right _ z))), fun a ha o q => s.kp a (List.mem_append_right _ ha) o q⟩
  exact ⟨fun σ' H' ρ' F2 S s q => w.nx σ' H' ρ' F2 S.lessG (hs s) q, fun v H' t E r n ap s q => w.rt v H' t E (r.less (del_sub fun a ha => (List.mem_append.mp ha).elim (List.mem_append_left _) fun z => List.mem_append_right _ (List.mem_append_right _ z))) n (fun a ha z => ap a ha (List.mem_append_right _ z)) (hs s) q,
    fun σ' H' ρ' F2 S s q => w.bk σ' H' ρ' F2 S.lessG (hs s) q, fun σ' H' ρ' F2 S s q => w.ct σ' H' ρ' F2 S.lessG (hs s) q⟩
/-- a slot's nodes become others' -/
theorem S3.take {KF : PySem.W.Frag} {G F : List Addr} {H : Hp} {σ : L2.St} (S : S3 KF G σ H ρ F) {i : Nat} (hr : ρ[i]? = some (some t)) : ∃ v F2 F', σ[i]? = some (some v) ∧ S3 KF (F2 ++ G) σ H (ρ.set i none) F' ∧ RT KF (del (F2 ++ (F' ++ G)) H) H v t F2 ∧ ∀ a, a ∈ F ++ G ↔ a ∈ F' ++ (F2 ++ G) := by
  obtain ⟨v, F1, F2, F3, e1, r, e2, f⟩ := S.ro.get hr
  have hi : i < ρ.length := (List.getElem?_eq_some_iff.mp hr).1
  have nd := S.nd
  subst e2
  have mem : ∀ a, a ∈ (F1 ++ (F2 ++ F3)) ++ G ↔ a ∈ (F1 ++ F3) ++ (F2 ++ G) := fun a => by
    simp only [List.mem_append]
    constructor
    · rintro ((z | z | z) | z)
      · exact .inl (.inl z)
      · exact .inr (.inl z)
      · exact .inl (.inr z)
      · exact .inr (.inr z)
    · rintro ((z | z) | z | z)
      · exact .inl (.inl z)
      · exact .inl (.inr (.inr z))
      · exact .inl (.inr (.inl z))
      · exact .inr z
  obtain ⟨F1', F2', F3', e, g⟩ := S.ro.put i hi
  have dr := S.drop i
  -- the slot alone dropped
  have key : ∀ {R H : Hp} {σ : L2.St} {ρ : Rho} {F : List Addr} {i : Nat} {t : T}, RO KF R H σ ρ F → ρ[i]? = some (some t) → ∃ v A B C, σ[i]? = some (some v) ∧ RT KF R H v t B ∧ F = A ++ (B ++ C) ∧ RO KF R H σ (ρ.set i none) (A ++ C) := by
    intro R H σ ρ F i t h
    induction h generalizing i with
    | nil => intro e; simp at e
    | @no o σ ρ G h ih =>
      intro e
      cases i with
      | zero => simp at e
      | succ i =>
        obtain ⟨v, A, B, C, e1, r, e2, q⟩ := ih (by simpa using e)
        exact ⟨v, A, B, C, by simpa using e1, r, e2, .no q⟩
    | @yes v t' σ ρ F G r h ih =>
      intro e
      cases i with
      | zero =>
        simp at e
        subst e
        exact ⟨v, [], F, G, rfl, r, rfl, .no h⟩
      | succ i =>
        obtain ⟨v', A, B, C, e1, r1, e2, q⟩ := ih (by simpa using e)
        refine ⟨v', F ++ A, B, C, by simpa using e1, r1, by rw [e2, List.append_assoc], ?_⟩
        rw [List.append_assoc]
        exact .yes r q
  obtain ⟨v', A, B, C, e1', r', e3, q⟩ := key S.ro hr
  rw [e1] at e1'
  cases e1'
  rw [e3] at nd q r'
  have mem : ∀ a, a ∈ (F1 ++ (F2 ++ F3)) ++ G ↔ a ∈ (A ++ C) ++ (B ++ G) := fun a => by
    rw [e3]
    simp only [List.mem_append]
    constructor
    · rintro ((z | z | z) | z)
      · exact .inl (.inl z)
      · exact .inr (.inl z)
      · exact .inl (.inr z)
      · exact .inr (.inr z)
    · rintro ((z | z) | z | z)
      · exact .inl (.inl z)
      · exact .inl (.inr (.inr z))
      · exact .inl (.inr (.inl z))
      · exact .inr z
  rw [e3] at mem
  refine ⟨v, B, A ++ C, e1, ⟨q.sm (del_sub fun a ha => (mem a).mpr ha) fun a _ o q => q, ?_, fun a ha => ?_⟩, r'.less (del_sub fun a ha => (mem a).mpr ?_), fun a => by rw [e3]; exact mem a⟩
  · simp only [List.nodup_append, List.mem_append] at nd ⊢
    obtain ⟨⟨n1, ⟨n2, n3, n4⟩, n5⟩, n6, n7⟩ := nd
    refine ⟨⟨n1, n3, fun x hx y hy => n5 x hx y (.inr hy)⟩, ⟨n2, n6, fun x hx y hy => n7 x (.inr (.inl hx)) y hy⟩, fun x hx y hy z => ?_⟩
    rcases hx with hx | hx <;> rcases hy with hy | hy
    · exact n5 x hx y (.inl hy) z
    · exact n7 x (.inl hx) y hy z
    · exact n4 y hy x hx z.symm
    · exact n7 x (.inr (.inr hx)) y hy z
  · exact S.fs a (by rw [e3]; exact (mem a).mpr (List.mem_append_right _ ha))
  · simp only [List.mem_append] at ha ⊢
    rcases ha with z | (z | z) | z
    · exact .inr (.inl z)
    · exact .inl (.inl z)
    · exact .inl (.inr z)
    · exact .inr (.inr z)
theorem stp_move {G F F2 F3 A F4 : List Addr} {H H' H2 : Hp} (st : Stp G F F2 H H') (h : ∀ a ∈ F3 ++ (A ++ G), a ∈ F2 ++ G ∨ a ∈ F) (s : Stp (A ++ G) F3 F4 H' H2) : Stp G F F4 H H2 := by
  refine ⟨fun b o q => ?_, fun a ha o q => s.kp a (List.mem_append_right _ ha) o (st.kp a ha o q)⟩
  have q2 := st.sh b o q
  obtain ⟨n1, _⟩ := del_some q
  obtain ⟨n2, q3⟩ := del_some q2
  have n3 : b ∉ F3 ++ (A ++ G) := fun z => (h b z).elim n2 fun z => n1 (List.mem_append_left _ z)
  have q4 := s.sh b o ((del_out n3).trans q3)
  obtain ⟨n4, q5⟩ := del_some q4
  exact (del_out fun z => n4 ((List.mem_append.mp z).elim (List.mem_append_left _) fun z => List.mem_append_right _ (List.mem_append_right _ z))).trans q5
theorem wish_move {G F F2 F3 A : List Addr} {H H' : Hp} {D : Ends} {K' : K3} (w : Wish X K G F H D) (st : Stp G F F2 H H') (h : ∀ a ∈ F3 ++ (A ++ G), a ∈ F2 ++ G ∨ a ∈ F) (hrt : ∀ t, K'.rt t → K.rt t) (hbk : ∀ r, K'.bk r → K.nx r) {nx ct : L2.St → Hp → Prop}
    (h1 : ∀ σ' H2 ρ' F', S3 X.K (A ++ G) σ' H2 ρ' F' → Stp (A ++ G) F3 F' H' H2 → K'.nx ρ' → nx σ' H2) (h2 : ∀ σ' H2 ρ' F', S3 X.K (A ++ G) σ' H2 ρ' F' → Stp (A ++ G) F3 F' H' H2 → K'.ct ρ' → ct σ' H2) : Wish X K' (A ++ G) F3 H' { D with nx := nx, ct := ct, bk := D.nx } :=
  ⟨h1, fun v H2 t E r n ap s q => w.rt v H2 t E (r.less (del_sub fun a ha => (List.mem_append.mp ha).elim (List.mem_append_left _) fun z => List.mem_append_right _ (List.mem_append_right _ z))) n (fun a ha z => ap a ha (List.mem_append_right _ z)) (stp_move st h s) (hrt t q),
    fun σ' H2 ρ' F' S s q => w.nx σ' H2 ρ' F' S.lessG (stp_move st h s) (hbk ρ' q), h2⟩
theorem RTs.opq {KF : PySem.W.Frag} {R H : Hp} : ∀ {tss : List (List T)} {vs : List V} {F : List Addr}, RTs KF R H vs (tss.map T.lst) F → ∃ ds : List D, ds.length = tss.length ∧ ∀ H, Rps KF H vs ds
  | [], _, _, h => by
    cases h
    exact ⟨[], rfl, fun _ => .nil⟩
  | ts :: tss, _, _, h => by
    cases h with
    | cons a b =>
      obtain ⟨ds, l, q⟩ := RTs.opq b
      cases a with
      | @lst a _ _ _ _ _ => exact ⟨.at a :: ds, by rw [List.length_cons, List.length_cons, l], fun H => .cons (.at a) (q H)⟩
/-- for x in ys: ys and its lists are own; each list may be changed; behind the loop ys holds lists of which nothing is known -/
theorem Sm.forO {tss : List (List T)} (I : Addr → Nat → Rho → Prop) (hX : XF M N sc fc k X) (i l : Nat) (hr : ρ[i]? = some (some (.lst (tss.map T.lst)))) (h0 : ∀ a, I a 0 (ρ.set i (some (.sh (.at a))))) (hI : ∀ a j ρ', I a j ρ' → ρ'[i]? = some (some (.sh (.at a))))
    (step : ∀ a j ts ρ', tss[j]? = some ts → I a j ρ' → Ss X (ρ'.set l (some (.lst ts))) body { nx := I a (j + 1), rt := K.rt, bk := fun _ => False, ct := I a (j + 1) }) (hd : ∀ (a : Addr) (ρ' : Rho) (ds : List D), ds.length = tss.length → I a tss.length ρ' → K.nx (ρ'.set i (some (.lst (ds.map T.sh)))))
    (hN : N[i]? = some y := by rfl) (hv : visB sc y = true := by decide +kernel) (hN2 : N[l]? = some x := by rfl) (hl : locB sc fc x = true := by decide +kernel) : Sm X ρ (.For (.Name x p) (.Name y p2) body [] pos) K := fun σ H F G D S w => by
  obtain ⟨v1, v2, v3⟩ := visB_ok hv
  obtain ⟨v, FA, F0, ev, S0, rt, mem⟩ := S.take hr
  cases rt with
  | @lst a vs _ FL ha hts =>
    have lv := hts.len
    rw [List.length_map] at lv
    have aF : a ∈ F := by
      have h1 := (mem a).mpr (List.mem_append_right _ (List.mem_append_left _ (List.mem_cons_self ..)))
      rcases List.mem_append.mp h1 with z | z
      · exact z
      · have nd := S0.nd
        simp only [List.nodup_append, List.mem_append, List.cons_append, List.mem_cons, List.nodup_cons] at nd
        exact absurd (.inr z) nd.2.1.1
    have FLF : ∀ c ∈ FL, c ∈ F := fun c hc => by
      have h1 := (mem c).mpr (List.mem_append_right _ (List.mem_append_left _ (List.mem_cons_of_mem _ hc)))
      rcases List.mem_append.mp h1 with z | z
      · exact z
      · have nd := S0.nd
        simp only [List.nodup_append, List.mem_append, List.cons_append, List.mem_cons, List.nodup_cons] at nd
        exact absurd rfl (nd.2.1.2.2.2 c hc c z)
    have hi : i < ρ.length := (List.getElem?_eq_some_iff.mp hr).1
    -- the slot holds the bare reference
    obtain ⟨FB, SB, mB⟩ : ∃ FB, S3 X.K (FL ++ (a :: G)) σ H (ρ.set i (some (.sh (.at a)))) FB ∧ ∀ c ∈ FB, c ∈ F0 := by
      obtain ⟨FB, SB, mB⟩ := S3.putE (E := []) (t := .sh (.at a)) (v := .ref a) (G := FL ++ (a :: G)) (ρ := ρ.set i none) (F := F0) (σ := σ) (H := H) (KF := X.K) ⟨S0.ro.sm (del_sub fun c hc => by
          simp only [List.mem_append, List.mem_cons, List.not_mem_nil, false_or] at hc ⊢
          rcases hc with z | z | z | z
          · exact .inl z
          · exact .inr (.inl (.inr z))
          · exact .inr (.inl (.inl z))
          · exact .inr (.inr z)) fun c _ o q => q, by
          have nd := S0.nd
          simp only [List.nodup_append, List.mem_append, List.cons_append, List.mem_cons, List.nodup_cons, List.nil_append, not_or] at nd ⊢
          obtain ⟨n1, ⟨⟨n2, n3⟩, n4, n5, n6⟩, n7⟩ := nd
          refine ⟨n1, ⟨n4, ⟨n3, n5⟩, fun x hx y hy z => ?_⟩, fun x hx y hy z => ?_⟩
          · rcases hy with e | hy
            · exact n2 (e ▸ z ▸ hx)
            · exact n6 x hx y hy z
          · rcases hy with hy | hy | hy
            · exact n7 x hx y (.inr (.inl hy)) z
            · exact n7 x hx y (.inl hy) z
            · exact n7 x hx y (.inr (.inr hy)) z, fun c hc => S0.gs c (by
          simp only [List.mem_append, List.mem_cons, List.not_mem_nil, false_or] at hc ⊢
          rcases hc with z | z | z
          · exact .inl (.inr z)
          · exact .inl (.inl z)
          · exact .inr z)⟩ (.sh (.at a)) i
      rw [List.set_set, set_self ev] at SB
      exact ⟨FB, SB, fun c hc => (mB c hc).elim id fun z => nomatch z⟩
    refine bestS.of (ps_for hX.hp hX.calm (pi_list (pe_var (by rw [hX.n]; exact hN) (by rw [hX.s]; exact v1) v2 v3)) (hX.pg l hN2 hl) pss_best) ⟨.ref a, ev, a, rfl, ⟨vs, SqL.of ha⟩, ?_⟩
    let W : Nat → Nat → L2.St → Hp → Prop := fun j m σ' H' => ∃ F2 Fr ρ', m = tss.length - j ∧ j ≤ tss.length ∧ S3 X.K (Fr ++ (a :: G)) σ' H' ρ' F2 ∧ RTs X.K (del (Fr ++ (F2 ++ (a :: G))) H') H' (vs.drop j) ((tss.drop j).map T.lst) Fr ∧ (∀ c ∈ Fr, c ∈ F) ∧ H' a = some (.lst vs) ∧ Stp G F F2 H H' ∧ I a j ρ'
    refine ⟨W, ⟨_, FB, FL, ρ.set i (some (.sh (.at a))), rfl, Nat.zero_le _, SB, hts.less (del_sub fun c hc => ?_), FLF, ha, ⟨del_sub fun c hc => ?_, fun c _ o q => q⟩, h0 a⟩, ?_⟩
    · simp only [List.mem_append, List.mem_cons] at hc ⊢
      rcases hc with z | z | z | z
      · exact .inl (.inr z)
      · exact .inr (.inl (mB c z))
      · exact .inl (.inl z)
      · exact .inr (.inr z)
    · refine (mem c).mpr ?_
      rcases List.mem_append.mp hc with z | z
      · exact List.mem_append_left _ (mB c z)
      · exact List.mem_append_right _ (List.mem_append_right _ z)
    rintro j m σ2 H2 ⟨F2, Fr, ρ2, rfl, hj, S2, rts, hFr, ha2, st, hIj⟩
    have hq : SqL X.K H2 a vs := SqL.of ha2
    by_cases hlt : j < tss.length
    · obtain ⟨ts, hts'⟩ : ∃ ts, tss[j]? = some ts := ⟨_, List.getElem?_eq_getElem hlt⟩
      have lj : j < vs.length := by omega
      have e1 : vs.drop j = vs[j] :: vs.drop (j + 1) := List.drop_eq_getElem_cons lj
      have e2 : tss.drop j = tss[j] :: tss.drop (j + 1) := List.drop_eq_getElem_cons hlt
      have e3 : tss[j] = ts := by
        rw [List.getElem?_eq_getElem hlt] at hts'
        exact Option.some.inj hts'
      rw [e1, e2, e3, List.map_cons] at rts
      cases rts with
      | @cons _ _ _ _ Fj Fr' r1 r2 =>
        refine .inr ⟨⟨vs, vs[j], hq, List.getElem?_eq_getElem lj⟩, W (j + 1) (tss.length - (j + 1)), fun σ' H' z => ⟨_, by omega, z⟩, fun v' H3 yl => ?_⟩
        obtain ⟨y1, y2⟩ := yl
        subst y1
        have e4 := y2 vs hq
        rw [List.getElem?_eq_getElem lj] at e4
        cases e4
        rw [List.append_assoc] at S2
        obtain ⟨F3, S3', m3⟩ := S2.putE (r1.less (del_sub fun c hc => by
          simp only [List.mem_append, List.mem_cons] at hc ⊢
          rcases hc with z | z | z | z | z
          · exact .inl (.inl z)
          · exact .inr (.inl z)
          · exact .inl (.inr z)
          · exact .inr (.inr (.inl z))
          · exact .inr (.inr (.inr z)))) l
        have hA : ∀ c ∈ F3 ++ ((Fr' ++ [a]) ++ G), c ∈ F2 ++ G ∨ c ∈ F := fun c hc => by
          simp only [List.mem_append, List.mem_cons, List.not_mem_nil, or_false] at hc ⊢
          rcases hc with z | (z | z) | z
          · exact (m3 c z).elim (fun z => .inl (.inl z)) fun z => .inr (hFr c (List.mem_append_left _ z))
          · exact .inr (hFr c (List.mem_append_right _ z))
          · exact .inr (z ▸ aF)
          · exact .inl (.inr z)
        have eA : Fr' ++ (a :: G) = (Fr' ++ [a]) ++ G := by rw [List.append_assoc]; rfl
        have nxt : ∀ σ' H' ρ' F', S3 X.K ((Fr' ++ [a]) ++ G) σ' H' ρ' F' → Stp ((Fr' ++ [a]) ++ G) F3 F' H3 H' → I a (j + 1) ρ' → W (j + 1) (tss.length - (j + 1)) σ' H' := fun σ' H' ρ' F' S' s q => by
          refine ⟨F', Fr', ρ', rfl, by omega, by rw [eA]; exact S', r2.sm (fun b o z => ?_) (fun c hc o z => s.kp c (List.mem_append_left _ (List.mem_append_left _ hc)) o z), fun c hc => hFr c (List.mem_append_right _ hc), s.kp a (List.mem_append_left _ (List.mem_append_right _ (List.mem_singleton_self a))) _ ha2, stp_move st hA s, q⟩
          obtain ⟨n1, z1⟩ := del_some z
          have n2 : b ∉ F3 ++ ((Fr' ++ [a]) ++ G) := fun hc => n1 (by
            simp only [List.mem_append, List.mem_cons, List.not_mem_nil, or_false] at hc ⊢
            rcases hc with z | (z | z) | z
            · exact (m3 b z).elim (fun z => .inr (.inl z)) fun z => .inl (.inl z)
            · exact .inl (.inr z)
            · exact .inr (.inr (.inl z))
            · exact .inr (.inr (.inr z)))
          obtain ⟨n3, z3⟩ := del_some (s.sh b o ((del_out n2).trans z1))
          refine (del_out fun hc => n3 ?_).trans z3
          simp only [List.mem_append, List.mem_cons, List.not_mem_nil, or_false] at hc ⊢
          rcases hc with z | z | z | z
          · exact .inr (.inl (.inl z))
          · exact .inl z
          · exact .inr (.inl (.inr z))
          · exact .inr (.inr z)
        rw [eA] at S3'
        exact step a j ts ρ2 hts' hIj _ H3 F3 ((Fr' ++ [a]) ++ G) _ S3' (wish_move (K' := { nx := I a (j + 1), rt := K.rt, bk := fun _ => False, ct := I a (j + 1) }) w st hA (fun _ q => q) (fun _ q => False.elim q) nxt nxt)
    · have e : j = tss.length := by omega
      subst e
      refine .inl ⟨⟨vs, hq, by omega⟩, ?_⟩
      obtain ⟨ds, ld, od⟩ := hts.opq
      have z1 : vs.drop tss.length = [] := List.drop_eq_nil_of_le (by omega)
      rw [z1, List.drop_eq_nil_of_le (Nat.le_refl _)] at rts
      cases rts
      have hσ : σ2[i]? = some (some (.ref a)) := by
        obtain ⟨v', _, _, _, e5, r5, _, _⟩ := S2.ro.get (hI a _ ρ2 hIj)
        cases r5 with
        | sh r5 =>
          cases r5
          exact e5
      obtain ⟨F3, S3', m3⟩ := S3.putE (E := [a]) (t := .lst (ds.map T.sh)) (v := .ref a) (G := G) (i := i) S2 (.lst ha2 (RTs.of_sh (od _)))
      rw [set_self hσ] at S3'
      refine w.nx σ2 H2 _ F3 S3' ⟨fun b o q => ?_, st.kp⟩ (hd a ρ2 ds ld hIj)
      obtain ⟨n1, _⟩ := del_some q
      obtain ⟨n2, q2⟩ := del_some (st.sh b o q)
      refine (del_out fun z => ?_).trans q2
      rcases List.mem_append.mp z with z | z
      · rcases m3 b z with z | z
        · exact n2 (List.mem_append_left _ z)
        · exact n1 (List.mem_append_left _ ((List.mem_singleton.mp z) ▸ aF))
      · exact n2 (List.mem_append_right _ z)
/-- x, y = a, b: x or y is not just the def's own name; what comes is looked at from then on -/
theorem Sm.parU {kt k2 : Nat} (hX : XF M N sc fc k X) (i j : Nat) (ha : EvA X ρ [a, b] [t, u]) (h : K.nx ((ρ.set i (some (.sh t.er))).set j (some (.sh u.er))))
    (hw : swappedStores [.Tuple [.Name x p1, .Name y p2] kt pt] (.Tuple [a, b] k2 pt2) (env0 sc) = pure none := by rfl) (f : fre ρ i = true := by rfl) (f2 : fre ρ j = true := by rfl) (hN : N[i]? = some x := by rfl) (hN2 : N[j]? = some y := by rfl) (hl : locB sc fc x = true := by decide +kernel) (hl2 : locB sc fc y = true := by decide +kernel)
    (hs : swapsWithSole [.Tuple [.Name x p1, .Name y p2] kt pt] (.Tuple [a, b] k2 pt2) pos.line X.env = pure false := by rfl) (h1 : (assignEach [.Tuple [.Name x p1, .Name y p2] kt pt] X.env).map (·.2) = [assign (.Tuple [.Name x p1, .Name y p2] kt pt) X.env] := by rfl) : Sm X ρ (.Assign [.Tuple [.Name x p1, .Name y p2] kt pt] (.Tuple [a, b] k2 pt2) pos) K :=
  Sm.unp (tgt := .tup [i, j]) (Ev.tup ha) (hX.pg2 i j hN hl hN2 hl2 rfl) rfl h (fun m hm => by
    rcases List.mem_cons.mp hm with e | e
    · rw [e]
      exact f
    · rw [List.mem_singleton.mp e]
      exact f2) hs (by rw [swapped_eq, hX.s]; exact hw) h1
theorem Ev.mulW {i j : Int} (ha : Rd X ρ a (.int i)) (hb : Rd X ρ b (.int j)) (h : CMulW i j) : Ev X ρ (.BinOp a .Mult b pos) (.sh (.int (i * j))) := Ev.opI op_mulW ha hb h
def constInts : List Expr → Option (List Int)
  | [] => some []
  | .Constant (.int i) _ _ :: es => (constInts es).map (i :: ·)
  | _ => none
theorem EvA.ints : ∀ {es : List Expr} {ns : List Int}, constInts es = some ns → EvA X ρ es (ns.map tI)
  | [], _, h => by
    cases h
    exact .nil
  | .Constant (.int i) _ _ :: es, ns, h => by
    have h' : (constInts es).map (i :: ·) = some ns := h
    cases q : constInts es with
    | none =>
      rw [q] at h'
      cases h'
    | some ms =>
      rw [q] at h'
      cases h'
      exact EvA.cons Ev.int (EvA.ints q) rfl
/-- (1, 2, ..), [1, 2, ..] -/
theorem Ev.tupI {ns : List Int} {x1} (h : constInts es = some ns := by rfl) (hz : ns.length ≤ 1000 := by decide) : Ev X ρ (.Tuple es x1 pos) (.sh (.tup (ns.map D.int))) :=
  (Ev.tup (EvA.ints h) (by rw [List.length_map]; exact Nat.le_of_lt (small1000 hz))).cast (by rw [ers_mapG _ D.int fun _ => rfl])
theorem Ev.listI {ns : List Int} (h : constInts es = some ns := by rfl) (hz : ns.length ≤ 1000 := by decide) : Ev X ρ (.List es pos) (tR ns) :=
  Ev.list (EvA.ints h) (by rw [List.length_map]; exact Nat.le_of_lt (small1000 hz))
end
section
variable {M : Md} {N : List Str} {sc : Scope} {fc : Str → Bool} {k : Nat} {X : Cx} {ρ : Rho} {e a b c o : Expr} {es : List Expr} {t u : T} {ts : List T} {d : D} {ds ds' : List D} {pos apos p p1 p2 p3 pt pt2 : Pos} {x y : Str} {tg iter elt : Expr} {scope : Scope} {K : K3} {st : Stmt} {rest body : List Stmt} {i : Nat} {π : List Sp1}
theorem RdA.three {d1 d2 d3 : D} {KF : PySem.W.Frag} {H : Hp} {vs : List V} (r : Rps KF H vs [d1, d2, d3]) : ∃ v w z, vs = [v, w, z] ∧ Rp KF H v d1 ∧ Rp KF H w d2 ∧ Rp KF H z d3 := by
  cases r with
  | cons a r =>
    cases r with
    | cons b r =>
      cases r with
      | cons c r =>
        cases r
        exact ⟨_, _, _, rfl, a, b, c⟩
/-- the numbers of a range with a step -/
theorem ItF.range3 {i j l : Int} {n : Nat} (hX : XF M N sc fc k X) (hm : M.mg "range" = none) (ha : Rd X ρ a (.int i)) (hb : Rd X ρ b (.int j)) (hc : Rd X ρ c (.int l)) (h : RgC i j l n)
    (hs : starEach (a :: [b, c]) X.env = (false, eval a X.env) :: starEach [b, c] X.env := by rfl) (hs2 : starEach (b :: [c]) X.env = (false, eval b X.env) :: starEach [c] X.env := by rfl) (hs3 : starEach (c :: []) X.env = (false, eval c X.env) :: starEach [] X.env := by rfl) (hpl : (backTo pos (starEach [b, c] X.env)).any (·.1) = false := by rfl) (hg : glB sc "range" = true := by decide +kernel) :
    ItF X ρ tg (.Call (.Name "range" p) [a, b, c] [] pos) ((List.range n).map fun (q : Nat) => D.int (i + (q : Int) * l)) := ⟨_, pi_range3 (hX.gl hg).1 (by rw [hX.m]; exact hm) pa_best hs hpl, fun σ H F G R S k => RdA.cons ha (RdA.cons hb (RdA.one hc hs3) hs2) hs σ H F G _ S fun vs H1 s r => by
  obtain ⟨v, w, z, rfl, r1, r2, r3⟩ := RdA.three r
  rw [r1.intE, r2.intE, r3.intE]
  refine ⟨i, j, l, n, rfl, h, k _ H1 s fun H2 N2 _ _ => ⟨fun q d hq => ?_, by show n ≤ _; rw [List.length_map, List.length_range]; exact Nat.le_refl _⟩⟩
  obtain ⟨q', e, _, rfl⟩ := map_at hq
  obtain ⟨h1, h2⟩ := List.getElem?_eq_some_iff.mp e
  rw [List.length_range] at h1
  rw [List.getElem_range] at h2
  subst h2
  refine ⟨h1, fun x H' y => ?_⟩
  obtain ⟨rfl, rfl⟩ := y
  exact ⟨.refl _, .int _⟩⟩
theorem rgc {j l : Int} (h1 : 0 < j) (h2 : j < 1000) (h3 : 0 < l) (h4 : l < 1000) : RgC 0 j l ((j - 1) / l + 1).toNat := by
  have h5 : 0 ≤ (j - 1) / l := Int.ediv_nonneg (by omega) (by omega)
  have h6 : (j - 1) / l ≤ j - 1 := Int.ediv_le_self _ (by omega)
  have e : Builtin.Range.rangeSize 0 j l = (j - 1) / l + 1 := by
    unfold Builtin.Range.rangeSize
    rw [if_pos h3, if_pos h1]
    congr 2
    omega
  refine ⟨by omega, by omega, ?_, by rw [e]; omega⟩
  unfold Builtin.Range.small
  rw [e]
  simp only [Builtin.Range.rangeFitsLong, Bool.and_eq_true, Bool.or_eq_true, decide_eq_true_eq, beq_iff_eq, if_pos h3]
  omega
end
/-- what a law promises of its script -/
def spL (n : Nat) (K : PySem.W.Frag) : Sp := fun vs H Q _ => ∃ (a : Addr) (ns : List Int), vs = [.ref a] ∧ SqL K H a (ns.map V.int) ∧ ns.length ≤ n ∧ ∀ v, v = V.bl true → ∀ H', Q v H'
theorem rps_ints {K : PySem.W.Frag} {H : Hp} : ∀ ns : List Int, Rps K H (ns.map V.int) (ns.map D.int)
  | [] => .nil
  | n :: ns => .cons (.int n) (rps_ints ns)
theorem cut_all {ns : List Int} {m : Nat} (h : ns.length ≤ m) : cutV (ns.map V.int) none (some (m : Int)) = ns.map V.int := by
  unfold cutV
  rw [HT.sIx_none, HT.sIx_nat, List.drop_zero, List.take_of_length_le]
  rw [List.length_map]
  omega
/-- a law whose first line cuts its script to the first m cells, where there are no more -/
theorem law_fn {M : Md} {name qual x : Str} {st : Stmt} {f : Addr} {fd : FuncData} {N : List Str} {k n m : Nat} {rest : List Stmt} {p1 p2 p3 p4 p5 p6 : Pos} {c : Nat} (F : Fun M.K name qual st f fd) (S : FnScope N [x] (defScope st))
    (hb : defBody st = .Assign [.Name x p1] (.Subscript (.Name x p2) (.Slice none (some (.Constant (.int m) c p3)) none p4) p5) p6 :: rest) (hN : N = x :: N.tail) (hl : locB (defScope st) (fun _ => true) x = true) (hv : visB (defScope st) x = true) (hn : n ≤ m)
    (body : ∀ X ns, ns.length ≤ n → XF M N (defScope st) (fun _ => true) k X → Ss X (rho0 N [dR ns]) rest { nx := fun _ => False, rt := fun t => t = .sh (.bl true) }) : FnG M.P M.w M.K M.mg M.base CX0 (k + 1) f fd [x] (spL n M.K) := by
  refine FnG.of0 F S (fun vs H Q E h => ?_) (fun cdv A outer s H vs Q E gd hr h => ?_)
  · obtain ⟨a, ns, rfl, _⟩ := h
    rfl
  · obtain ⟨a, ns, rfl, hS, hlen, q⟩ := h
    rw [hb]
    obtain ⟨h1, h2, h3⟩ := visB_ok hv
    have hN0 : N[0]? = some x := by
      rw [hN]
      rfl
    have hX : XF M N (defScope st) (fun _ => true) k (cxOf CX0 M.P M.w M.K M.mg M.base N qual (defScope st) f cdv A outer s H E).nox := ⟨rfl, rfl, rfl, rfl, rfl, rfl, rfl, S.nd, rfl, rfl, hr, rfl, gd⟩
    refine ⟨_, pss_cons (ps_set (i := 0) S.nd hN0 (hX.loc hl |>.1) (pe_slice sl_list (pe_var hN0 h1 h2 h3) po_none (po_some pe_int))) pss_best, ?_⟩
    refine ⟨.ref a, rfl, m, rfl, a, ns.map V.int, rfl, hS, fun z hz => ?_⟩
    rw [cut_all (Nat.le_trans hlen hn)]
    have S0 : S3 M.K [] ((L2.start N [V.ref a]).set 0 (some (.ref z))) (upd H z (.lst (ns.map V.int))) (rho0 N [dR ns]) [] := by
      refine ⟨?_, by simp, fun _ z => nomatch z⟩
      exact RO.start (vs := [V.ref z]) (ds := [dR ns]) _ (.cons (.lst (del_out (by simp) |>.trans upd_same) (rps_ints ns)) .nil)
    refine body _ ns hlen hX _ _ _ _ _ S0 ⟨fun _ _ _ _ _ _ e => e.elim, fun v H' t' E r n a s e => ?_, fun _ _ _ _ _ _ e => e.elim, fun _ _ _ _ _ _ e => e.elim⟩
    have e' : t' = .sh (.bl true) := e
    subst e'
    cases r with
    | sh r =>
      cases r
      exact q _ rfl _
/-! ### instances of own classes -/
section
variable {K : PySem.W.Frag} {R H : Hp} {f : Str}
theorem Rpf.get : ∀ {vs : List (Str × V)} {ds : List (Str × D)} {d : D}, Rpf K H vs ds → ds.lookup f = some d → ∃ v, vs.lookup f = some v ∧ Rp K H v d
  | _, _, _, .nil, e => nomatch e
  | _, _, _, .cons (n := n) (v := v) (vs := vs) (d := d) (ds := ds) a b, e => by
    rw [List.lookup_cons] at e
    rw [List.lookup_cons]
    cases q : f == n with
    | true =>
      rw [q] at e
      cases e
      exact ⟨v, rfl, a⟩
    | false =>
      rw [q] at e
      exact Rpf.get b e
theorem Rpf.no : ∀ {vs : List (Str × V)} {ds : List (Str × D)}, Rpf K H vs ds → ds.lookup f = none → vs.lookup f = none
  | _, _, .nil, _ => rfl
  | _, _, .cons (n := n) (v := v) (vs := vs) (d := d) (ds := ds) a b, e => by
    rw [List.lookup_cons] at e
    rw [List.lookup_cons]
    cases q : f == n with
    | true =>
      rw [q] at e
      cases e
    | false =>
      rw [q] at e
      exact Rpf.no b e
theorem RTf.get : ∀ {vs : List (Str × V)} {ts : List (Str × T)} {F : List Addr} {t : T}, RTf K R H vs ts F → ts.lookup f = some t → ∃ v F', vs.lookup f = some v ∧ (∀ a ∈ F', a ∈ F) ∧ RT K R H v t F'
  | _, _, _, _, .nil, e => nomatch e
  | _, _, _, _, .cons (n := n) (v := v) (vs := vs) (F := F) (G := G) a b, e => by
    rw [List.lookup_cons] at e
    rw [List.lookup_cons]
    cases q : f == n with
    | true =>
      rw [q] at e
      cases e
      exact ⟨v, F, rfl, fun a ha => List.mem_append_left _ ha, a⟩
    | false =>
      rw [q] at e
      obtain ⟨v', F', e1, e2, e3⟩ := RTf.get b e
      exact ⟨v', F', e1, fun a ha => List.mem_append_right _ (e2 a ha), e3⟩
theorem RTf.no : ∀ {vs : List (Str × V)} {ts : List (Str × T)} {F : List Addr}, RTf K R H vs ts F → ts.lookup f = none → vs.lookup f = none
  | _, _, _, .nil, _ => rfl
  | _, _, _, .cons (n := n) (v := v) (vs := vs) a b, e => by
    rw [List.lookup_cons] at e
    rw [List.lookup_cons]
    cases q : f == n with
    | true =>
      rw [q] at e
      cases e
    | false =>
      rw [q] at e
      exact RTf.no b e
theorem RTf.len : ∀ {vs : List (Str × V)} {ts : List (Str × T)} {F : List Addr}, RTf K R H vs ts F → vs.length = ts.length
  | _, _, _, .nil => rfl
  | _, _, _, .cons a b => congrArg (· + 1) (RTf.len b)
theorem putF_new {y : V} : ∀ {vs : List (Str × V)}, vs.lookup f = none → L2.putF f y vs = vs ++ [(f, y)]
  | [], _ => rfl
  | (g, x) :: r, e => by
    rw [List.lookup_cons] at e
    cases q : f == g with
    | true =>
      rw [q] at e
      cases e
    | false =>
      rw [q] at e
      have : g ≠ f := fun z => by
        subst z
        rw [beq_self_eq_true] at q
        cases q
      show (if g = f then (g, y) :: r else (g, x) :: L2.putF f y r) = _
      rw [if_neg this, putF_new e]
      rfl
theorem RTf.snoc {f : Str} : ∀ {vs : List (Str × V)} {ts : List (Str × T)} {E E2 : List Addr} {v : V} {t : T}, RTf K R H vs ts E → RT K R H v t E2 → RTf K R H (vs ++ [(f, v)]) (ts ++ [(f, t)]) (E ++ E2)
  | _, _, _, E2, v, t, .nil, r => by
    have := RTf.cons (n := f) r (RTf.nil (K := K) (R := R) (H := H))
    rw [List.append_nil] at this
    exact this
  | _, _, _, E2, v, t, .cons a b, r => by
    rw [List.append_assoc]
    exact .cons a (b.snoc r)
end
section
variable {M : Md} {N : List Str} {sc : Scope} {fc : Str → Bool} {k : Nat} {X : Cx} {ρ : Rho} {e a b c o : Expr} {es : List Expr} {t u : T} {ts : List T} {d : D} {ds ds' : List D} {pos apos p p1 p2 p3 pt pt2 : Pos} {x y f : Str} {tg iter elt : Expr} {scope : Scope} {KK : K3} {st : Stmt} {rest body : List Stmt} {i : Nat} {π : List Sp1} {C : Addr} {fs : List (Str × D)} {gs : List (Str × T)}
/-- o.f -/
theorem Ev.fld (hX : XF M N sc fc k X) (cl : Cls M.K C) (nA : NoAttr M.K C f) (h : Ev X ρ o (.sh (.obj C fs))) (q : fs.lookup f = some d) (hb : attributeBase o f X.env (eval o X.env) = eval o X.env := by rfl) : Ev X ρ (.Attribute o f pos) (.sh d) := fun σ H F G Q S kk =>
  best.of (pe_fld pe_best hb) (h σ H F G _ S fun v H1 E r => by
    have r' := r.rt
    cases r' with
    | sh r' =>
      cases r' with
      | obj h1 h2 =>
        obtain ⟨u, e1, r2⟩ := h2.get q
        exact ⟨_, C, _, _, u, rfl, (del_some h1).2, by rw [hX.K]; exact cl, by rw [hX.K]; exact nA, e1, kk u H1 [] ⟨r.sm, (fun a z => nomatch z), List.nodup_nil, .sh r2⟩⟩)
theorem Rd.fld (hX : XF M N sc fc k X) (cl : Cls M.K C) (nA : NoAttr M.K C f) (h : Rd X ρ o (.obj C fs)) (q : fs.lookup f = some d) (hb : attributeBase o f X.env (eval o X.env) = eval o X.env := by rfl) : Rd X ρ (.Attribute o f pos) d := fun σ H F G Q S kk =>
  best.of (pe_fld pe_best hb) (h σ H F G _ S fun v H1 s r => by
    cases r with
    | obj h1 h2 =>
      obtain ⟨u, e1, r2⟩ := h2.get q
      exact ⟨_, C, _, _, u, rfl, h1, by rw [hX.K]; exact cl, by rw [hX.K]; exact nA, e1, kk u H1 s r2⟩)
theorem Pa.fld (hX : XF M N sc fc k X) (cl : Cls M.K C) (nA : NoAttr M.K C f) (h : Pa X ρ o (.obj C gs)) (q : gs.lookup f = some t) (hb : attributeBase o f X.env (eval o X.env) = eval o X.env := by rfl) : Pa X ρ (.Attribute o f pos) t := fun σ H F G Q S kk =>
  best.of (pe_fld pe_best hb) (h σ H F G _ S fun v H1 E s1 hE r1 => by
    cases r1 with
    | obj h1 h2 =>
      obtain ⟨u, F', e1, sub, r⟩ := h2.get q
      exact ⟨_, C, _, _, u, rfl, h1, by rw [hX.K]; exact cl, by rw [hX.K]; exact nA, e1, kk u H1 F' s1 (fun a ha => hE a (List.mem_cons_of_mem _ (sub a ha))) r⟩)
theorem Pn.fld {s : T} (hX : XF M N sc fc k X) (cl : Cls M.K C) (nA : NoAttr M.K C f) (h : Pn X ρ o i π) (hr : ρ[i]? = some (some t)) (ht : T.at π t = some (.obj C gs)) (q : gs.lookup f = some s) (hb : attributeBase o f X.env (eval o X.env) = eval o X.env := by rfl) : Pn X ρ (.Attribute o f pos) i (π ++ [.fd f]) := fun σ H F G Q S kk =>
  best.of (pe_fld pe_best hb) (h σ H F G _ S fun v w H1 s1 ev va => by
    obtain ⟨v', A1, A2, A3, e1, r, e2, _⟩ := (S.sm s1).ro.get hr
    obtain ⟨w', B1, B2, B3, va', rb, e3, _⟩ := r.hole π ht
    rw [ev] at e1
    cases e1
    have := va.inj va'
    subst this
    cases rb with
    | obj h1 h2 =>
      obtain ⟨u, F', e4, sub, r4⟩ := h2.get q
      exact ⟨_, C, _, _, u, rfl, h1, by rw [hX.K]; exact cl, by rw [hX.K]; exact nA, e4, kk v u H1 s1 ev (va.app ⟨_, C, _, _, u, rfl, h1, e4, rfl⟩)⟩)
/-- a method keeps its contract; its first argument is the instance -/
def MtOk (M : Md) (k : Nat) (C : Addr) (m : Str) (g : List D → T → Prop) : Prop := ∃ (f : Addr) (fd : FuncData) (ps : List Str), FnG M.P M.w M.K M.mg M.base CX0 k f fd ps (sp3 M.K g) ∧ Meth M.K C m f ∧ Binds M.K fd ps []
theorem Ev.meth {j : Nat} {m : Str} {g : List D → T → Prop} (hX : XF M N sc fc k X) (cl : Cls M.K C) (hF : MtOk M j C m g) (ho : Rd X ρ o (.obj C fs)) (hm : fs.lookup m = none) (ha : RdA X ρ (e :: es) ds) (q : g (.obj C fs :: ds) t) (hO : Own t) (hj : j ≤ k := by decide)
    {pl : Sem Bool} (he : starEach (e :: es) X.env = (false, eval e X.env) :: starEach es X.env := by rfl) (hpl : (backTo pos (starEach es X.env)).any (·.1) = false := by rfl)
    (ht : eval (.Call (.Attribute o m apos) (e :: es) [] pos) X.env = (do
      let ov ← eval o X.env
      standAt apos.atName
      let (f, first) ← holding [ov] (getMethod ov m pl)
      callWith pos f first (backTo pos (starEach (e :: es) X.env)) (backToKw pos (keywordEach [] X.env))) := by rfl) : Ev X ρ (.Call (.Attribute o m apos) (e :: es) [] pos) t := by
  obtain ⟨f, fd, ps, F, hmt, hb⟩ := hF
  obtain ⟨pP, pw, pK, pm, pb, _, _, _, _, _, room, _, gd⟩ := hX
  cases M
  simp only at pP pw pK pm pb F hmt hb cl
  subst pP pw pK pm pb
  intro σ H Fa G Q S kk
  refine best.of (pe_methG (pl := pl) pe_best cl hmt F gd (room.mono hj) hb pass0 pa_best he hpl ht) (ho σ H Fa G _ S fun v H1 s1 r1 => ?_)
  cases r1 with
  | obj h1 h2 =>
    refine ⟨_, _, _, rfl, h1, h2.no hm, ha σ H1 Fa G _ (S.sm s1) fun vs H2 s2 r2 => ?_⟩
    show sp3 X.K g (_ :: vs) H2 Q E0
    exact ⟨_ :: ds, t, [], by rw [del_nil]; exact .cons (.obj (s2 _ _ h1) (h2.sm s2)) r2, (fun a ha => nomatch ha), List.nodup_nil, q, fun v H' E2 z => kk v H' E2 ⟨(s1.trans s2).trans z.sm, fun a ha => (s1.trans s2).free (z.fr a ha), z.nd, hO.rt _ _ z.rt⟩⟩
/-- from an instance with some fields to one with all -/
def Si (X : Cx) (ρ : Rho) (C : Addr) (dn : List (Str × T)) (body : List Stmt) (full : List (Str × T)) : Prop := ∀ (σ : L2.St) (x dx : Addr) (G E : List Addr) (H : Hp) (vs : List (Str × V)) (D : Ends), S3 X.K (E ++ (x :: G)) σ H ρ [] → σ[0]? = some (some (.ref x)) → H x = some (.ins C dx vs) → RTf X.K (del (E ++ (x :: G)) H) H vs dn E →
  (∀ (H' : Hp) (E' : List Addr) (vs' : List (Str × V)), (∀ b o, b ≠ x → H b = some o → H' b = some o) → H' x = some (.ins C dx vs') → RTf X.K (del (E' ++ (x :: G)) H') H' vs' full E' → (E' ++ (x :: G)).Nodup → (∀ b ∈ E', b ∈ E ∨ H b = none) → D.nx σ H') → bestSs X body D σ H
theorem Si.nil {dn : List (Str × T)} : Si X ρ C dn [] dn := fun σ x dx G E H vs D S h0 hx r k => bestSs.of pss_nil (k H E vs (fun _ _ _ e => e) hx r (by simpa using S.nd) fun _ h => .inl h)
theorem sw_att {e o : Expr} {f : Str} {p : Pos} {l : Nat} {env : Env} : swapsWith e (some (.Attribute o f p)) l env = pure false := by
  unfold swapsWith
  cases e <;> rfl
theorem Si.cons {dn full : List (Str × T)} {sf : Str} (hX : XF M N sc fc k X) (cl : Cls M.K C) (nA : NoAttr M.K C f) (he : Ev X ρ e u) (h : Si X ρ C (dn ++ [(f, u)]) rest full) (hf : dn.lookup f = none := by rfl) (hz : dn.length < 1000 := by decide) (hN : N[0]? = some sf := by rfl) (hv : visB sc sf = true := by decide +kernel)
    (hs : swapsWith e (some (.Attribute (.Name sf p1) f p2)) p3.line X.env = pure false := by exact sw_att) : Si X ρ C dn (.Assign [.Attribute (.Name sf p1) f p2] e p3 :: rest) full := fun σ x dx G E H vs D S h0 hx r kk => by
  obtain ⟨v1, v2, v3⟩ := visB_ok hv
  refine bestSs.of (pss_cons (ps_fld (pe_var (by rw [hX.n]; exact hN) (by rw [hX.s]; exact v1) v2 v3) pe_best hs) pss_best) (he σ H [] (E ++ (x :: G)) _ S fun y H1 E1 r1 => ?_)
  have nd : (E ++ (x :: G)).Nodup := by simpa using S.nd
  have fs := S.fs
  have hx1 : H1 x = some (.ins C dx vs) := r1.sm _ _ hx
  have fr : ∀ b ∈ E1, H b = none := r1.fr
  have xE1 : x ∉ E1 := fun z => by
    have := fr x z
    rw [hx] at this
    cases this
  have xE : x ∉ E := fun z => by
    simp only [List.nodup_append, List.mem_cons] at nd
    exact nd.2.2 x z x (.inl rfl) rfl
  have e1 : vs.lookup f = none := r.no hf
  refine ⟨.ref x, h0, x, C, dx, vs, rfl, hx1, by rw [hX.K]; exact cl, by rw [hX.K]; exact nA, by rw [r.len]; exact hz, ?_⟩
  rw [putF_new e1]
  have up : ∀ b, b ≠ x → upd H1 x (.ins C dx (vs ++ [(f, y)])) b = H1 b := fun b hb => upd_ne hb
  have ap : ∀ b ∈ E1, b ∉ E ++ (x :: G) := fun b hb z => by
    obtain ⟨o, q⟩ := fs b (by simpa using z)
    rw [fr b hb] at q
    cases q
  have nd2 : ((E ++ E1) ++ (x :: G)).Nodup := by
    have n1 := r1.nd
    simp only [List.nodup_append, List.mem_append, List.mem_cons, List.nodup_cons] at nd n1 ap ⊢
    refine ⟨⟨nd.1, n1, fun a ha b hb z => ?_⟩, nd.2.1, fun a ha b hb z => ?_⟩
    · exact ap b hb (.inl (z ▸ ha))
    · rcases ha with ha | ha
      · exact nd.2.2 a ha b hb z
      · exact ap a ha (.inr (z ▸ hb))
  refine h σ x dx G (E ++ E1) _ (vs ++ [(f, y)]) D ⟨?_, by simpa using nd2, fun a ha => ?_⟩ h0 upd_same ?_ fun H' E' vs' k1 k2 k3 k4 k5 => kk H' E' vs' (fun b o hb q => k1 b o hb (by rw [up b hb]; exact r1.sm _ _ q)) k2 k3 k4 fun b hb => ?_
  · refine S.ro.sm (fun b o q => ?_) fun a ha => nomatch ha
    obtain ⟨q1, q2⟩ := del_some q
    have hb : b ≠ x := fun z => q1 (by rw [z]; simp)
    refine (del_out fun z => ?_).trans ((up b hb).trans (r1.sm _ _ q2))
    simp only [List.nil_append, List.mem_append] at z q1
    rcases z with (z | z) | z
    · exact q1 (.inl z)
    · rw [fr b z] at q2
      cases q2
    · exact q1 (.inr z)
  · by_cases hb : a = x
    · exact ⟨_, by rw [hb]; exact upd_same⟩
    · rw [up a hb]
      simp only [List.mem_append] at ha
      rcases ha with (z | z) | z
      · obtain ⟨o, q⟩ := fs a (by simp [z])
        exact ⟨o, r1.sm _ _ q⟩
      · exact r1.rt.fs a z
      · obtain ⟨o, q⟩ := fs a (by simp only [List.nil_append, List.mem_append]; exact .inr z)
        exact ⟨o, r1.sm _ _ q⟩
  · refine RTf.snoc (r.sm (fun b o q => ?_) fun b hb o q => ?_) (r1.rt.sm (fun b o q => ?_) fun b hb o q => ?_)
    · obtain ⟨q1, q2⟩ := del_some q
      have hb : b ≠ x := fun z => q1 (by rw [z]; simp)
      refine (del_out fun z => ?_).trans ((up b hb).trans (r1.sm _ _ q2))
      simp only [List.mem_append] at z q1
      rcases z with (z | z) | z
      · exact q1 (.inl z)
      · rw [fr b z] at q2
        cases q2
      · exact q1 (.inr z)
    · rw [up b fun z => xE (z ▸ hb)]
      exact r1.sm _ _ q
    · obtain ⟨q1, q2⟩ := del_some q
      have hb : b ≠ x := fun z => q1 (by rw [z]; simp)
      refine (del_out fun z => q1 ?_).trans ((up b hb).trans q2)
      simp only [List.nil_append, List.mem_append] at z ⊢
      rcases z with (z | z) | z
      · exact .inr (.inl z)
      · exact .inl z
      · exact .inr (.inr z)
    · rw [up b fun z => xE1 (z ▸ hb)]
      exact q
  · rcases k5 b hb with z | z
    · rcases List.mem_append.mp z with z | z
      · exact .inl z
      · exact .inr (fr b z)
    · by_cases hb' : b = x
      · exfalso
        rw [hb', upd_same] at z
        cases z
      · rw [up b hb'] at z
        exact .inr (r1.sm.free z)
/-- the promise of an __init__ -/
def spI (K : PySem.W.Frag) (C : Addr) (g : List D → T → Prop) : Sp := fun vs H Q _ => ∃ (x dx : Addr) (ws : List V) (ds : List D) (t : T) (G : List Addr), vs = .ref x :: ws ∧ H x = some (.ins C dx []) ∧ x ∉ G ∧ Rps K (del (x :: G) H) ws ds ∧ (∀ a ∈ G, ∃ o, H a = some o) ∧ G.Nodup ∧ g ds t ∧
  ∀ H' E, (∀ b o, b ≠ x → H b = some o → H' b = some o) → RT K (del (E ++ G) H') H' (.ref x) t E → E.Nodup → (∀ a ∈ E, a = x ∨ H a = none) → Q .non H'
/-- a class makes instances by its __init__ -/
def MkOk (M : Md) (k : Nat) (x : Str) (C : Addr) (g : List D → T → Prop) : Prop := ∃ (f : Addr) (fd : FuncData) (ps : List Str), FnG M.P M.w M.K M.mg M.base CX0 k f fd ps (spI M.K C g) ∧ Mk M.K C f ∧ M.mg x = some (.ref C) ∧ Binds M.K fd ps []
theorem Ev.make {j : Nat} {g : List D → T → Prop} (hX : XF M N sc fc k X) (hF : MkOk M j x C g) (ha : EvA X ρ (e :: es) ts) (q : g (T.ers ts) t) (hj : j + 1 ≤ k := by decide) (hg : glB sc x = true := by decide +kernel)
    (he : starEach (e :: es) X.env = (false, eval e X.env) :: starEach es X.env := by rfl) (hpl : (backTo pos (starEach es X.env)).any (·.1) = false := by rfl) : Ev X ρ (.Call (.Name x p) (e :: es) [] pos) t := by
  obtain ⟨f, fd, ps, F, mk, hm, hb⟩ := hF
  obtain ⟨h1, h2⟩ := hX.gl hg
  obtain ⟨pP, pw, pK, pm, pb, _, _, _, _, _, room, _, gd⟩ := hX
  cases M
  simp only at pP pw pK pm pb F hm mk hb
  subst pP pw pK pm pb
  intro σ H Fa G Q S kk
  refine best.of (pe_makeG mk F gd (room.mono hj) h1 hm hb pass0 pa_best h2 he hpl) (ha σ H Fa G _ S fun vs H1 E r => fun x dx hx hdx ne => ?_)
  have fz := r.freeze S.fs
  have S1 := S.sm r.sm
  have nX : ∀ b o, H1 b = some o → upd (upd H1 dx (.own x)) x (.ins C dx []) b = some o := fun b o q => by
    rw [upd_ne fun z => ?_, upd_ne fun z => ?_]
    · exact q
    · rw [z, hdx] at q
      cases q
    · rw [z, hx] at q
      cases q
  have xG : x ∉ Fa ++ G := fun z => by
    obtain ⟨o, q⟩ := S1.fs x z
    rw [hx] at q
    cases q
  refine ⟨x, dx, vs, T.ers ts, t, Fa ++ G, rfl, upd_same, xG, ?_, fun a ha => ?_, S.nd, q, fun H' E2 k1 k2 k3 k4 => ⟨rfl, kk _ _ E2 ⟨fun b o q => ?_, fun a ha => ?_, k3, k2⟩⟩⟩
  · refine fz.sm fun b o q => ?_
    obtain ⟨q1, q2⟩ := del_some q
    refine (del_out fun z => ?_).trans (nX b o q2)
    rcases List.mem_cons.mp z with z | z
    · rw [z, hx] at q2
      cases q2
    · exact q1 z
  · obtain ⟨o, q⟩ := S1.fs a ha
    exact ⟨o, nX a o q⟩
  · refine k1 b o (fun z => ?_) (nX b o (r.sm _ _ q))
    have := r.sm _ _ q
    rw [z, hx] at this
    cases this
  · rcases k4 a ha with z | z
    · rw [z]
      exact r.sm.free hx
    · refine r.sm.free ?_
      cases w : H1 a with
      | none => rfl
      | some o =>
        rw [nX a o w] at z
        cases z
/-- the same: own nodes are only looked at, what comes is new -/
theorem Ev.makeR {j : Nat} {g : List D → T → Prop} (hX : XF M N sc fc k X) (hF : MkOk M j x C g) (ha : RdA X ρ (e :: es) ds) (q : g ds t) (hO : Own t) (hj : j + 1 ≤ k := by decide) (hg : glB sc x = true := by decide +kernel)
    (he : starEach (e :: es) X.env = (false, eval e X.env) :: starEach es X.env := by rfl) (hpl : (backTo pos (starEach es X.env)).any (·.1) = false := by rfl) : Ev X ρ (.Call (.Name x p) (e :: es) [] pos) t := by
  obtain ⟨f, fd, ps, F, mk, hm, hb⟩ := hF
  obtain ⟨h1, h2⟩ := hX.gl hg
  obtain ⟨pP, pw, pK, pm, pb, _, _, _, _, _, room, _, gd⟩ := hX
  cases M
  simp only at pP pw pK pm pb F hm mk hb
  subst pP pw pK pm pb
  intro σ H Fa G Q S kk
  refine best.of (pe_makeG mk F gd (room.mono hj) h1 hm hb pass0 pa_best h2 he hpl) (ha σ H Fa G _ S fun vs H1 sm r => fun x dx hx hdx ne => ?_)
  have nX : ∀ b o, H1 b = some o → upd (upd H1 dx (.own x)) x (.ins C dx []) b = some o := fun b o q => by
    rw [upd_ne fun z => ?_, upd_ne fun z => ?_]
    · exact q
    · rw [z, hdx] at q
      cases q
    · rw [z, hx] at q
      cases q
  refine ⟨x, dx, vs, ds, t, [], rfl, upd_same, (fun z => nomatch z), ?_, (fun a ha => nomatch ha), List.nodup_nil, q, fun H' E2 k1 k2 k3 k4 => ⟨rfl, kk _ _ E2 ⟨fun b o q => ?_, fun a ha => ?_, k3, hO.rt _ _ k2⟩⟩⟩
  · refine r.sm fun b o q2 => (del_out fun z => ?_).trans (nX b o q2)
    rcases List.mem_cons.mp z with z | z
    · rw [z, hx] at q2
      cases q2
    · cases z
  · refine k1 b o (fun z => ?_) (nX b o (sm _ _ q))
    have := sm _ _ q
    rw [z, hx] at this
    cases this
  · rcases k4 a ha with z | z
    · rw [z]
      exact sm.free hx
    · refine sm.free ?_
      cases w : H1 a with
      | none => rfl
      | some o =>
        rw [nX a o w] at z
        cases z
/-- an __init__ of the text as it stands behind the top -/
def InE (M : Md) (C : Addr) (qual : Str) (st : Stmt) (ps : List Str) : Prop := ∃ (f : Addr) (fd : FuncData), Fun M.K "__init__" qual st f fd ∧ Mk M.K C f ∧ Binds M.K fd ps []
def MtE (M : Md) (C : Addr) (m qual : Str) (st : Stmt) (ps : List Str) : Prop := ∃ (f : Addr) (fd : FuncData), Fun M.K m qual st f fd ∧ Meth M.K C m f ∧ Binds M.K fd ps []
theorem mk_okE {qual : Str} {st : Stmt} {N ps : List Str} {k : Nat} {g : List D → T → Prop} (hI : InE M C qual st ps) (hm : M.mg x = some (.ref C)) (S : FnScope N ps (defScope st)) (len : ∀ ds t, g ds t → ds.length + 1 = ps.length)
    (body : ∀ X ds t a, XF M N (defScope st) (fun _ => true) k X → g ds t → ∃ fs, t = .obj C fs ∧ Si X (rho0 N (.at a :: ds)) C [] (defBody st) fs) (hN : ∀ ds t, g ds t → ds.length + 1 ≤ N.length := by intros; decide) : MkOk M (k + 1) x C g := by
  obtain ⟨f, fd, F, mk, hb⟩ := hI
  refine ⟨f, fd, ps, FnG.of0 F S (fun vs H Q E h => ?_) (fun cdv A outer s H vs Q E gd hr h => ?_), mk, hm, hb⟩
  · obtain ⟨x, dx, ws, ds, t, G, rfl, _, _, h1, _, _, h2, _⟩ := h
    rw [List.length_cons, h1.len]
    exact len ds t h2
  · obtain ⟨x, dx, ws, ds, t, G, rfl, hx, hxG, h1, hG, nG, h2, q⟩ := h
    refine ⟨_, pss_best, ?_⟩
    have S0 : S3 M.K ([] ++ (x :: G)) (L2.start N (.ref x :: ws)) H (rho0 N (.at x :: ds)) [] := by
      refine ⟨?_, by simpa using ⟨hxG, nG⟩, fun a ha => ?_⟩
      · unfold L2.start rho0
        rw [List.length_cons, h1.len, List.length_cons]
        exact RO.start (vs := .ref x :: ws) (ds := .at x :: ds) _ (.cons (.at x) (by simpa using h1))
      · rcases List.mem_cons.mp (by simpa using ha) with z | z
        · exact ⟨_, by rw [z]; exact hx⟩
        · exact hG a z
    have hX : XF M N (defScope st) (fun _ => true) k (cxOf CX0 M.P M.w M.K M.mg M.base N qual (defScope st) f cdv A outer s H E).nox := ⟨rfl, rfl, rfl, rfl, rfl, rfl, rfl, S.nd, rfl, rfl, hr, rfl, gd⟩
    obtain ⟨fs, rfl, hs⟩ := body _ ds t x hX h2
    refine hs _ x dx G [] H [] _ S0 rfl hx .nil fun H' E' vs' k1 k2 k3 k4 k5 => ?_
    have xE : x ∉ E' := fun z => by
      simp only [List.nodup_append, List.mem_cons] at k4
      exact k4.2.2 x z x (.inl rfl) rfl
    refine q H' (x :: E') k1 (.obj k2 (k3.sm (del_sub fun a ha => ?_) fun _ _ _ e => e)) (List.nodup_cons.mpr ⟨xE, (List.nodup_append.mp k4).1⟩) fun a ha => ?_
    · simp only [List.mem_append, List.mem_cons, List.cons_append] at ha ⊢
      rcases ha with z | z | z
      · exact .inr (.inl z)
      · exact .inl z
      · exact .inr (.inr z)
    · rcases List.mem_cons.mp ha with z | z
      · exact .inl z
      · exact .inr ((k5 a z).elim (fun z => nomatch z) id)
theorem mt_okE {m qual : Str} {st : Stmt} {N ps : List Str} {k : Nat} {g : List D → T → Prop} (hI : MtE M C m qual st ps) (S : FnScope N ps (defScope st)) (len : ∀ ds t, g ds t → ds.length = ps.length)
    (body : ∀ X ds t, XF M N (defScope st) (fun _ => true) k X → g ds t → Ss X (rho0 N ds) (defBody st) { nx := fun _ => t = .sh .non, rt := fun t' => t' = t }) : MtOk M (k + 1) C m g := by
  obtain ⟨f, fd, F, hm, hb⟩ := hI
  refine ⟨f, fd, ps, FnG.of0 F S (fun vs H Q E h => ?_) (fun cdv A outer s H vs Q E gd hr h => ?_), hm, hb⟩
  · obtain ⟨ds, t, G, h1, _, _, h2, _⟩ := h
    rw [h1.len]
    exact len ds t h2
  · obtain ⟨ds, t, G, h1, hG, nG, h2, q⟩ := h
    refine ⟨_, pss_best, ?_⟩
    have S0 : S3 M.K G (L2.start N vs) H (rho0 N ds) [] := by
      refine ⟨?_, by simpa using nG, hG⟩
      unfold L2.start rho0
      rw [h1.len]
      exact RO.start _ (by simpa using h1)
    refine body _ ds t ⟨rfl, rfl, rfl, rfl, rfl, rfl, rfl, S.nd, rfl, rfl, hr, rfl, gd⟩ h2 _ _ _ _ _ S0 ⟨fun σ' H' ρ' F' S' s e => ?_, fun v H' t' E r n a s e => ?_, fun _ _ _ _ _ _ e => e.elim, fun _ _ _ _ _ _ e => e.elim⟩
    · have e' : t = .sh .non := e
      subst e'
      exact q _ H' [] ⟨s.same, (fun a z => nomatch z), List.nodup_nil, .sh .non⟩
    · have e' : t' = t := e
      subst e'
      refine q v H' E ⟨s.same, fun b hb => ?_, n, r⟩
      cases z : H b with
      | none => rfl
      | some o =>
        have := s.sh b o ((del_out (by simpa using a b hb)).trans z)
        rw [del_in (List.mem_append_left _ hb)] at this
        cases this
theorem kit_mk {K : PySem.W.Frag} {t : Value} {C : Addr} {b : Bool} (h1 : (PySem.W.clsIn K C).isSome = true) (ty : PySem.W.typeIn K (.ref C) = some (.type "type")) (s : PySem.W.subIn K t (.ref C) = some b) (ne : (t == .ref C) = false) : PySem.W.kitOne K t (.ref C) = some b := by
  unfold PySem.W.kitOne
  rw [if_neg (by rw [ne]; exact Bool.false_ne_true)]
  show (if _ then _ else _) = _
  rw [if_pos (by rw [h1, ty]; rfl)]
  exact s
/-- what isinstance asks of an instance of the class at C -/
structure IsC (K : PySem.W.Frag) (C : Addr) : Prop where
  cl : Cls K C
  ha : PySem.W.findIn K (.ref C) "__class__" = some (some (.builtin "object.__class__"))
  hn : PySem.W.specialIn K (.builtin "object.__class__") "__get__" = some (some (.builtin "getset_descriptor.__get__"))
  htk : PySem.W.takesIn K (.builtin "object.__class__") = some true
  hm : PySem.W.mroIn K C (.type "object") = some true
/-- an own class's name -/
theorem e_cls (hX : XF M N sc fc k X) (hm : M.mg x = some (.ref C)) (hg : glB sc x = true := by decide +kernel) : Ev X ρ (.Name x p) (.sh (.at C)) := by
  obtain ⟨h1, h2⟩ := hX.gl hg
  exact Ev.glob (v := .ref C) h1 (by rw [hX.m]; exact hm) rfl trivial (fun H => .at C) h2
/-- isinstance(o, X), X an own class -/
theorem e_isO {C' : Addr} {q : Bool} (hX : XF M N sc fc k X) (hm : M.mg "isinstance" = none) (hm2 : M.mg x = some (.ref C')) (ic : IsC M.K C) (ha : Rd X ρ a (.obj C fs)) (hk : PySem.W.kitOne M.K (.ref C) (.ref C') = some q) (hs : starEach (a :: [.Name x p2]) X.env = (false, eval a X.env) :: starEach [.Name x p2] X.env := by rfl)
    (hg : glB sc "isinstance" = true := by decide +kernel) (hg2 : glB sc x = true := by decide +kernel) : Ev X ρ (.Call (.Name "isinstance" p) [a, .Name x p2] [] pos) (.sh (.bl q)) :=
  callB hX call_isi hg hm (by decide +kernel) (by decide) trivial (.cons ha (.one (Ev.rd (e_cls hX hm2 hg2)) rfl) hs) (fun vs H Q r kk => by
    obtain ⟨v, w, rfl, r1, r2⟩ := r.two
    have : w = .ref C' := by
      cases r2
      rfl
    subst this
    cases r1 with
    | obj h1 h2 => exact ⟨_, .ref C', .ref C, .ref C', q, rfl, .own C', .base (.ins h1 (by rw [hX.K]; exact ic.cl) (by rw [hX.K]; exact ic.ha) (by rw [hX.K]; exact ic.hn) (by rw [hX.K]; exact ic.htk) (by rw [hX.K]; exact ic.hm)), by rw [hX.K]; exact hk, kk _ (.bl _)⟩) hs rfl
end
/-! ### order of data -/
section
variable {X : Cx} {x y : D}
theorem op_geD (hu : X.A.units + 64 < cLine) : OpR X (compareOp .GtE) (fun x y H Q => ∃ d e, Dp X.K H x d ∧ Dp X.K H y e ∧ PySem.W.alike d e = true ∧ d ≠ .none ∧ d.depth ≤ 64 ∧ Q (.bl (!PySem.W.dataLt d e)) H) := by
  intro pins s σ H x y v u Q I rx ry h
  obtain ⟨d, e, hd, he, al, nn, dp, q⟩ := h
  obtain ⟨as, r1⟩ := Dp.reads I d x v hd rx
  obtain ⟨bs, r2⟩ := Dp.reads I e y u he ry
  exact PySem.W.ge_data r1 r2 al nn (by omega) ⟨.bl _, H, I, rfl, q⟩
theorem op_ltD (hu : X.A.units + 64 < cLine) : OpR X (compareOp .Lt) (fun x y H Q => ∃ d e, Dp X.K H x d ∧ Dp X.K H y e ∧ PySem.W.alike d e = true ∧ d ≠ .none ∧ d.depth ≤ 64 ∧ Q (.bl (PySem.W.dataLt d e)) H) := by
  intro pins s σ H x y v u Q I rx ry h
  obtain ⟨d, e, hd, he, al, nn, dp, q⟩ := h
  obtain ⟨as, r1⟩ := Dp.reads I d x v hd rx
  obtain ⟨bs, r2⟩ := Dp.reads I e y u he ry
  exact PySem.W.lt_data r1 r2 al nn (by omega) ⟨.bl _, H, I, rfl, q⟩
theorem CmpD.geD {k n m : Nat} (hr : Room k X.A) (hx : Ok n x) (hy : Ok m y) (al : PySem.W.alike (py x) (py y) = true) (nn : py x ≠ .none) (hn : n ≤ 64 := by decide) : CmpD X .GtE x y (!PySem.W.dataLt (py x) (py y)) :=
  ⟨_, op_geD hr.units, fun u v H Q h1 h2 q => ⟨py x, py y, h1.dp hx.1, h2.dp hy.1, al, nn, Nat.le_trans hx.2 hn, q⟩⟩
theorem CmpD.ltD {k n m : Nat} (hr : Room k X.A) (hx : Ok n x) (hy : Ok m y) (al : PySem.W.alike (py x) (py y) = true) (nn : py x ≠ .none) (hn : n ≤ 64 := by decide) : CmpD X .Lt x y (PySem.W.dataLt (py x) (py y)) :=
  ⟨_, op_ltD hr.units, fun u v H Q h1 h2 q => ⟨py x, py y, h1.dp hx.1, h2.dp hy.1, al, nn, Nat.le_trans hx.2 hn, q⟩⟩
theorem alike_ints : ∀ xs ys : List Int, PySem.W.alikeAll (pys (xs.map D.int)) (pys (ys.map D.int)) = true
  | [], _ => by simp [pys, PySem.W.alikeAll]
  | _ :: _, [] => by simp [pys, PySem.W.alikeAll]
  | x :: xs, y :: ys => by
    show PySem.W.alikeAll (py (.int x) :: pys _) (py (.int y) :: pys _) = true
    rw [PySem.W.alikeAll, alike_ints xs ys]
    simp [py, PySem.W.alike]
theorem alike_dR (xs ys : List Int) : PySem.W.alike (py (dR xs)) (py (dR ys)) = true := by
  show PySem.W.alike (.list _) (.list _) = true
  rw [PySem.W.alike]
  exact alike_ints xs ys
theorem alike_rows : ∀ xs ys : List (List Int), PySem.W.alikeAll (pys (xs.map dR)) (pys (ys.map dR)) = true
  | [], _ => by simp [pys, PySem.W.alikeAll]
  | _ :: _, [] => by simp [pys, PySem.W.alikeAll]
  | x :: xs, y :: ys => by
    show PySem.W.alikeAll (py (dR x) :: pys _) (py (dR y) :: pys _) = true
    rw [PySem.W.alikeAll, alike_rows xs ys, alike_dR]
    rfl
theorem alike_dT (xs ys : List (List Int)) : PySem.W.alike (py (dT xs)) (py (dT ys)) = true := by
  show PySem.W.alike (.list _) (.list _) = true
  rw [PySem.W.alike]
  exact alike_rows xs ys
/-! ### sorted -/
theorem each_out {R : V → D → Prop} : ∀ {us : List Value} {bs : List D}, PySem.W.EachIs (fun v b => ∃ x, RelV x v ∧ R x b) us bs → ∃ xs, Vals xs us ∧ PySem.W.EachIs R xs bs
  | _, _, .nil => ⟨[], .nil, .nil⟩
  | _, _, .cons ⟨x, r, h⟩ e => by
    obtain ⟨xs, r', h'⟩ := each_out e
    exact ⟨x :: xs, .cons r r', .cons h h'⟩
theorem each_in {R : V → D → Prop} : ∀ {xs : List V} {us : List Value} {bs : List D}, Vals xs us → PySem.W.EachIs R xs bs → PySem.W.EachIs (fun v b => ∃ x, RelV x v ∧ R x b) us bs
  | _, _, _, .nil, .nil => .nil
  | _, _, _, .cons r r', .cons h h' => .cons ⟨_, r, h⟩ (each_in r' h')
theorem each_imp {α β : Type} {R R' : α → β → Prop} (h : ∀ x b, R x b → R' x b) {P : β → Prop} : ∀ {xs : List α} {bs : List β}, PySem.W.EachIs R xs bs → PySem.W.EachIs R' xs bs
  | _, _, .nil => .nil
  | _, _, .cons a b => .cons (h _ _ a) (each_imp h (P := P) b)
theorem each_mem {R R' : Value → D → Prop} : ∀ {us : List Value} {bs : List D}, (∀ v b, b ∈ bs → R v b → R' v b) → PySem.W.EachIs R us bs → PySem.W.EachIs R' us bs
  | _, _, _, .nil => .nil
  | _, _, h, .cons a b => .cons (h _ _ (List.mem_cons_self ..) a) (each_mem (fun v x m => h v x (List.mem_cons_of_mem _ m)) b)
theorem each_rps {K : PySem.W.Frag} {H : Hp} : ∀ {xs : List V} {ds : List D}, Rps K H xs ds → PySem.W.EachIs (fun x b => Rp K H x b) xs ds
  | _, _, .nil => .nil
  | _, _, .cons a b => .cons a (each_rps b)
theorem rps_each {K : PySem.W.Frag} {H : Hp} : ∀ {xs : List V} {ds : List D}, PySem.W.EachIs (fun x b => Rp K H x b) xs ds → Rps K H xs ds
  | _, _, .nil => .nil
  | _, _, .cons a b => .cons a (rps_each b)
theorem each_len {α β : Type} {R : α → β → Prop} : ∀ {xs : List α} {bs : List β}, PySem.W.EachIs R xs bs → xs.length = bs.length
  | _, _, .nil => rfl
  | _, _, .cons _ b => congrArg (· + 1) (each_len b)
def rSortD (K : PySem.W.Frag) : List V → Hp → VK → Prop := fun vs H Q => ∃ (a : Addr) (xs : List V) (bs : List D) (R : V → D → Prop), vs = [.ref a] ∧ SqL K H a xs ∧ PySem.W.EachIs R xs bs ∧ (∀ x b, R x b → Rp K H x b) ∧ (∀ b ∈ bs, Ok 60 b) ∧ PySem.W.AllAlike (bs.map py) ∧ PySem.W.Sortable (bs.map py) ∧ bs.length ≤ sizeLine ∧
  ∀ p xs', H p = none → PySem.W.EachIs R xs' (bs.mergeSort (PySem.W.dataLe false py)) → Q (.ref p) (upd H p (.lst xs'))
theorem cr_sortD (hu : X.A.units + 64 < cLine) : CallR X (.builtin "sorted") (rSortD X.K) := by
  intro pins s σ H vs us Q I r h
  obtain ⟨a, xs, bs, R, rfl, hs, he, hR, ok, al, so, hz, q⟩ := h
  obtain ⟨its, rv, hl, _⟩ := I.list hs
  rw [Vals.ref1 r]
  have e1 := each_in rv he
  refine PySem.W.sorted_data (enc := py) hl.isList e1 (each_mem (fun v b hb ⟨x, r1, r2⟩ => Dp.reads I (py b) x v ((hR x b r2).dp (ok b hb).1) r1) e1) al so hz (fun b hb => by have := (ok b hb).2; omega) fun out h1 h2 => ?_
  obtain ⟨ep, he'⟩ := PyProof.Rows.sortedAll_at s.heap its (List.toArray out)
  obtain ⟨xs', r2, e2⟩ := each_out h2
  have hlen : xs'.length ≤ sizeLine := by
    rw [each_len e2, List.length_mergeSort]
    exact hz
  exact ⟨.ref _, upd H (s.heap.objs.size + 1) (.lst xs'), I.laid (t' := s.toks) (fun _ _ => PyProof.Rows.sortedAll_old) (Nat.le_succ _) ⟨hlen, out, ep, r2, he'⟩, rfl, q _ xs' (I.hok.fresh (Nat.le_succ _)) e2⟩
end
section
variable {M : Md} {N : List Str} {sc : Scope} {fc : Str → Bool} {k : Nat} {X : Cx} {ρ : Rho} {e : Expr} {ds : List D} {p pos : Pos}
/-- sorted(e), e a list of shared data that can be compared -/
theorem e_sorted (hX : XF M N sc fc k X) (hm : M.mg "sorted" = none) (ha : Ls X ρ e ds) (ok : ∀ b ∈ ds, Ok 60 b) (al : PySem.W.AllAlike (ds.map py)) (so : PySem.W.Sortable (ds.map py)) (hz : ds.length ≤ sizeLine) (hs : starEach (e :: []) X.env = (false, eval e X.env) :: starEach [] X.env := by rfl) (hg : glB sc "sorted" = true := by decide +kernel) :
    Ev X ρ (.Call (.Name "sorted" p) [e] [] pos) (.lst ((ds.mergeSort (PySem.W.dataLe false py)).map T.sh)) := by
  obtain ⟨h1, h2⟩ := hX.gl hg
  exact fun σ H F G Q S k => best.of (pe_callB (cr_sortD hX.room.units) h1 (by rw [hX.m]; exact hm) (show bootBuiltins "sorted" = some (.builtin "sorted") from by decide +kernel) (pa_cons pe_best pa_nil hs) (by decide) h2 hs rfl)
    (ha σ H F G _ S fun q vs H' sm e r => ⟨q, vs, ds, fun x b => Rp X.K (del (F ++ G) H') x b, rfl, SqL.of e, each_rps r, fun x b h => h.sm del_le, ok, al, so, hz, fun l xs' hl hx => k _ _ _ (new_sh S sm (rps_each hx) hl)⟩)
theorem Rps.rev {K : PySem.W.Frag} {H : Hp} : ∀ {vs : List V} {ds : List D}, Rps K H vs ds → Rps K H vs.reverse ds.reverse
  | _, _, .nil => .nil
  | _, _, .cons a b => by
    rw [List.reverse_cons, List.reverse_cons]
    exact (Rps.rev b).app (.cons a .nil)
/-- xs[::-1] -/
theorem Ev.rev {a : Expr} {kk : Nat} {p1 p2 p3 : Pos} (h : Ls X ρ a ds) : Ev X ρ (.Subscript a (.Slice none none (some (.UnaryOp .USub (.Constant (.int 1) kk p1) p2)) p3) pos) (.lst (ds.reverse.map T.sh)) := fun σ H F G Q S k =>
  best.of (pe_revL pe_best) (h σ H F G _ S fun p vs H1 s1 e1 r1 => ⟨p, vs, rfl, SqL.of e1, fun o ho => k _ _ _ (new_sh S s1 r1.rev ho)⟩)
/-- x is one of ys -/
def inB {α : Type} [DecidableEq α] (x : α) (ys : List α) : Bool := decide (x ∈ ys)
theorem inB_iff {α : Type} [DecidableEq α] {x : α} {ys : List α} : inB x ys = true ↔ x ∈ ys := decide_eq_true_iff
theorem inB_no {α : Type} [DecidableEq α] {x : α} {ys : List α} : inB x ys = false ↔ x ∉ ys := decide_eq_false_iff_not
/-- x in ys, by the data that they stand for -/
theorem any_map {α : Type} [DecidableEq α] (f : α → D) (h : ∀ a b, eqb (f a) (f b) = decide (a = b)) (x : α) : ∀ ys : List α, ((pys (ys.map f)).any fun z => PyData.eqv z (py (f x))) = decide (x ∈ ys)
  | [] => by
    show List.any [] _ = _
    rw [List.any_nil, decide_eq_false (by simp)]
  | y :: ys => by
    show List.any (py (f y) :: pys (ys.map f)) _ = _
    have e := h y x
    unfold eqb at e
    rw [List.any_cons, any_map f h x ys, e]
    by_cases h1 : y = x
    · subst h1
      simp
    · have h2 : ¬ x = y := fun z => h1 z.symm
      by_cases h3 : x ∈ ys <;> simp [h1, h2, h3]
theorem CmpD.inM {α : Type} [DecidableEq α] {f : α → D} {x : α} {ys : List α} {k n m : Nat} (hr : Room (k + 1) X.A) (h : ∀ a b, eqb (f a) (f b) = decide (a = b)) (hx : Ok n (f x)) (hy : Ok m (.lst (ys.map f))) (hn : n ≤ 64 := by decide) (hm : m ≤ 64 := by decide) : CmpD X .In (f x) (.lst (ys.map f)) (inB x ys) := by
  show CmpD X .In (f x) (.lst (ys.map f)) (decide (x ∈ ys))
  rw [← any_map f h x ys]
  exact CmpD.inL hr hx hy hn hm
theorem CmpD.notInM {α : Type} [DecidableEq α] {f : α → D} {x : α} {ys : List α} {k n m : Nat} (hr : Room (k + 1) X.A) (h : ∀ a b, eqb (f a) (f b) = decide (a = b)) (hx : Ok n (f x)) (hy : Ok m (.lst (ys.map f))) (hn : n ≤ 64 := by decide) (hm : m ≤ 64 := by decide) : CmpD X .NotIn (f x) (.lst (ys.map f)) (!inB x ys) := by
  show CmpD X .NotIn (f x) (.lst (ys.map f)) (!decide (x ∈ ys))
  rw [← any_map f h x ys]
  exact CmpD.notInL hr hx hy hn hm
abbrev dTs (ts : List (List (List Int))) : D := .lst (ts.map dT)
abbrev tTs (ts : List (List (List Int))) : T := .lst (ts.map tT)
theorem er_tTs (ts : List (List (List Int))) : (tTs ts).er = dTs ts := congrArg D.lst (ers_mapG _ _ er_tT ts)
theorem own_tTs (ts : List (List (List Int))) : Own (tTs ts) := own_map own_tT ts
theorem ok_dTs (ts : List (List (List Int))) : Ok 3 (dTs ts) := ok_map (n := 2) ok_dT
theorem eqb_dTs (s t : List (List (List Int))) : eqb (dTs s) (dTs t) = decide (s = t) := eqb_map _ eqb_dT s t
theorem eqb_nonL (xs : List D) : eqb .non (.lst xs) = false := by
  show PyData.eqv .none (.list _) = _
  simp only [PyData.eqv]
theorem own_obj1 {C : Addr} {f : Str} {t : T} (h : Own t) : Own (.obj C [(f, t)]) := .obj fun q hq => by
  rw [List.mem_singleton.mp hq]
  exact h
theorem itRange2 {a b tg : Expr} {lo j : Int} {n : Nat} (hX : XF M N sc fc k X) (hm : M.mg "range" = none) (ha : Rd X ρ a (.int lo)) (hb : Rd X ρ b (.int j)) (hn : (j - lo).toNat = n) (h : -(2 ^ 62) ≤ lo ∧ lo < 2 ^ 62 ∧ -(2 ^ 62) ≤ j ∧ j < 2 ^ 62)
    (hs : starEach (a :: [b]) X.env = (false, eval a X.env) :: starEach [b] X.env := by rfl) (hs2 : starEach (b :: []) X.env = (false, eval b X.env) :: starEach [] X.env := by rfl) (hg : glB sc "range" = true := by decide +kernel) :
    ItF X ρ tg (.Call (.Name "range" p) [a, b] [] pos) ((List.range n).map fun (i : Nat) => D.int (lo + (i : Int))) := by
  subst hn
  exact ItF.range2 hX hm ha hb h hs hs2 hg
end
theorem tT_nest (t : List (List Int)) : tT t = .lst ((t.map (List.map tI)).map T.lst) := by
  show T.lst _ = T.lst _
  rw [List.map_map]
  rfl
theorem eq3 {a b c a' b' c' : D} : eqb (.lst [a, b, c]) (.lst [a', b', c']) = (eqb a a' && (eqb b b' && eqb c c')) := by
  rw [eqb_lst, eqvAll_cons, eqvAll_cons, eqvAll_cons, eqvAll_nil, Bool.and_true]
theorem eqT {s t : List (List Int)} (h : s = t) : eqb (dT s) (dT t) = true := by rw [eqb_dT, h, decide_eq_true rfl]
theorem eqR {s t : List Int} (h : s = t) : eqb (dR s) (dR t) = true := by rw [eqb_dR, h, decide_eq_true rfl]
theorem ok3 {n : Nat} {a b c : D} (h1 : Ok n a) (h2 : Ok n b) (h3 : Ok n c) : Ok (n + 1) (.lst [a, b, c]) := ok_lst fun d hd => by
  simp only [List.mem_cons, List.not_mem_nil, or_false] at hd
  rcases hd with rfl | rfl | rfl <;> assumption
section
variable {M : Md} {N : List Str} {sc : Scope} {fc : Str → Bool} {k : Nat} {X : Cx} {ρ : Rho} {a e : Expr} {ds : List D} {p pos : Pos}
theorem CmpD.isB {p q : Bool} : CmpD X .Is (.bl p) (.bl q) (decide (p = q)) := ⟨_, op_is_bl, fun u v H Q h1 h2 k => ⟨p, q, h1.blE, h2.blE, k⟩⟩
theorem CmpD.isNotB {p q : Bool} : CmpD X .IsNot (.bl p) (.bl q) (!decide (p = q)) := ⟨_, op_isnot_bl, fun u v H Q h1 h2 k => ⟨p, q, h1.blE, h2.blE, k⟩⟩
/-- a cut, of anything -/
def cutN {α : Type} (xs : List α) (lo hi : Option Int) : List α := (xs.drop (HT.sIx xs.length 0 lo)).take (HT.sIx xs.length xs.length hi - HT.sIx xs.length 0 lo)
theorem cutD_map {α : Type} (f : α → D) (xs : List α) (lo hi : Option Int) : cutD (xs.map f) lo hi = (cutN xs lo hi).map f := by
  unfold cutD cutN
  rw [List.length_map, List.map_take, List.map_drop]
theorem cutN_sub {α : Type} {xs : List α} {lo hi : Option Int} {x : α} (h : x ∈ cutN xs lo hi) : x ∈ xs := List.mem_of_mem_drop (List.mem_of_mem_take h)
theorem cutN_len {α : Type} (xs : List α) (lo hi : Option Int) : (cutN xs lo hi).length ≤ xs.length := by
  unfold cutN
  rw [List.length_take, List.length_drop]
  omega
theorem er_shs (ds : List D) : T.er (.lst (ds.map T.sh)) = .lst ds := congrArg D.lst (ers_sh ds)
/-- xs[:hi], xs[lo:], xs[::-1], xs + ys, xs * n as shared lists -/
theorem e_cutH {α : Type} {f : α → D} {xs : List α} {hi : Expr} {i : Int} {p2 : Pos} (h : Ls X ρ a (xs.map f)) (hh : Rd X ρ hi (.int i)) : Ev X ρ (.Subscript a (.Slice none (some hi) none p2) pos) (.sh (.lst ((cutN xs none (some i)).map f))) :=
  (Ev.cutH h hh).fz' (by rw [er_shs, cutD_map])
theorem e_cutL {α : Type} {f : α → D} {xs : List α} {lo : Expr} {i : Int} {p2 : Pos} (h : Ls X ρ a (xs.map f)) (hl : Rd X ρ lo (.int i)) : Ev X ρ (.Subscript a (.Slice (some lo) none none p2) pos) (.sh (.lst ((cutN xs (some i) none).map f))) :=
  (Ev.cutL h hl).fz' (by rw [er_shs, cutD_map])
theorem e_rev {α : Type} {f : α → D} {xs : List α} {kk : Nat} {p1 p2 p3 : Pos} (h : Ls X ρ a (xs.map f)) : Ev X ρ (.Subscript a (.Slice none none (some (.UnaryOp .USub (.Constant (.int 1) kk p1) p2)) p3) pos) (.sh (.lst (xs.reverse.map f))) :=
  (Ev.rev h).fz' (by rw [er_shs, List.map_reverse])
theorem e_cat {α : Type} {f : α → D} {xs ys : List α} {b : Expr} (h : Ls X ρ a (xs.map f)) (h' : Ls X ρ b (ys.map f)) (hz : xs.length + ys.length ≤ 10000) : Ev X ρ (.BinOp a .Add b pos) (.sh (.lst ((xs ++ ys).map f))) :=
  (Ev.cat h h' (by rw [List.length_map, List.length_map]; exact Nat.le_trans hz (by decide))).fz' (by rw [er_shs, List.map_append])
theorem rep1 {α : Type} (d : α) : ∀ n : Nat, (List.replicate n [d]).flatten = List.replicate n d
  | 0 => rfl
  | n + 1 => by
    rw [List.replicate_succ, List.replicate_succ, List.flatten_cons, rep1 d n]
    rfl
theorem e_rep {b : Expr} {d : D} {n : Nat} (h : Ls X ρ a [d]) (h' : Rd X ρ b (.int n)) (hz : n ≤ 1000) : Ev X ρ (.BinOp a .Mult b pos) (.sh (.lst (List.replicate n d))) :=
  (Ev.rep h h' (by omega) (by omega) (by rw [Int.toNat_natCast]; show 1 * n ≤ _; rw [Nat.one_mul]; exact Nat.le_of_lt (small1000 hz))).fz' (by rw [er_shs, Int.toNat_natCast, rep1])
/-- sorted tables -/
def sortT (ts : List (List (List Int))) : List (List (List Int)) := ts.mergeSort fun a b => PySem.W.dataLe false py (dT a) (dT b)
theorem sortT_mem {ts : List (List (List Int))} {t : List (List Int)} : t ∈ sortT ts ↔ t ∈ ts := List.mem_mergeSort
theorem sortT_len (ts : List (List (List Int))) : (sortT ts).length = ts.length := List.length_mergeSort ..
theorem e_sortT {ts : List (List (List Int))} (hX : XF M N sc fc k X) (hm : M.mg "sorted" = none) (ha : Ls X ρ e (ts.map dT)) (hz : ts.length ≤ 1000) (hs : starEach (e :: []) X.env = (false, eval e X.env) :: starEach [] X.env := by rfl) (hg : glB sc "sorted" = true := by decide +kernel) :
    Ev X ρ (.Call (.Name "sorted" p) [e] [] pos) (.sh (dTs (sortT ts))) :=
  (e_sorted hX hm ha (fun b hb => by
    obtain ⟨t, _, rfl⟩ := List.mem_map.mp hb
    exact (ok_dT t).mono (by decide)) (fun d hd d' hd' => by
    obtain ⟨b, hb, rfl⟩ := List.mem_map.mp hd
    obtain ⟨t, _, rfl⟩ := List.mem_map.mp hb
    obtain ⟨b, hb, rfl⟩ := List.mem_map.mp hd'
    obtain ⟨t', _, rfl⟩ := List.mem_map.mp hb
    exact alike_dT t t') (.inr fun d hd => by
    obtain ⟨b, hb, rfl⟩ := List.mem_map.mp hd
    obtain ⟨t, _, rfl⟩ := List.mem_map.mp hb
    exact ⟨(fun z => nomatch z), fun xs z => nomatch z⟩) (by rw [List.length_map]; exact Nat.le_of_lt (small1000 hz)) hs hg).fz' (by
    rw [er_shs]
    show D.lst _ = D.lst ((sortT ts).map dT)
    unfold sortT
    rw [List.map_mergeSort (f := dT) (s := PySem.W.dataLe false py) fun _ _ _ _ => rfl])
end
/-! ### stores of shared data -/
def Gs (X : Cx) (ρ : Rho) (tg : Expr) (d : D) (ρ' : Rho) : Prop := ∃ g : TG, PG X tg g ∧ ∀ (σ : L2.St) (H : Hp) (F G : List Addr) (v : V) (Q : L2.St → Hp → Prop), S3 X.K G σ H ρ F → Rp X.K (del (F ++ G) H) v d →
  (∀ σ' H' F', S3 X.K G σ' H' ρ' F' → Stp G F F' H H' → Q σ' H') → g v σ H Q
section
variable {M : Md} {N : List Str} {sc : Scope} {fc : Str → Bool} {k : Nat} {X : Cx} {ρ ρ1 ρ2 : Rho} {e a b c o t1 t2 : Expr} {es : List Expr} {t u : T} {ts : List T} {d d1 d2 : D} {ds ds' : List D} {pos apos p p1 p2 p3 pt pt2 : Pos} {x y : Str} {tg iter elt : Expr} {scope : Scope} {K : K3} {st : Stmt} {rest body : List Stmt} {i : Nat} {π : List Sp1}
theorem Gs.name (hX : XF M N sc fc k X) (i : Nat) (hN : N[i]? = some x := by rfl) (h : locB sc fc x = true := by decide +kernel) : Gs X ρ (.Name x pos) d (ρ.set i (some (.sh d))) := by
  refine ⟨_, hX.pg i hN h, fun σ H F G v Q S r q => ?_⟩
  obtain ⟨F', S', st⟩ := S.put (E := []) ⟨.refl _, (fun a z => nomatch z), List.nodup_nil, .sh r⟩ i
  exact q _ _ F' S' st
/-- o[b] = -/
theorem Gs.sub {m : Int} {j : Nat} {s : T} (hp : Pn X ρ o i π) (hb : Rd X ρ b (.int m)) (q : ixN ts.length m = some j) (hj : ts[j]? = some s) (hr : ρ[i]? = some (some t) := by rfl) (ht : T.at π t = some (.lst ts) := by rfl) (sb : SB X o b p := by intro _; rfl) : Gs X ρ (.Subscript o b p) d (ρ.set i (some (T.put π (.lst (ts.set j (.sh d))) t))) := by
  refine ⟨_, pg_sub pe_best pe_best set_list sb, fun σ H F G y Q S r Qh => ?_⟩
  refine hp σ H F G _ S fun v z H2 s2 ev va => hb σ H2 F G _ (S.sm s2) fun z2 H3 s3 r3 => ?_
  obtain ⟨v', q', vs, F2, e1, va', ha, hts, nF, hF, up⟩ := S.mut hr ht
  rw [ev] at e1
  cases e1
  have s03 := s2.trans s3
  have := (va.sm s3).inj (va'.sm s03)
  subst this
  obtain ⟨F2', hts', nF', sub⟩ := hts.nd (u := .sh d) j hj nF (R' := del (F2 ++ (F ++ G)) H3) (H' := H3) (w := y) (E := []) (del_new s03 fun x hx => by
      rcases List.mem_append.mp hx with z | z
      · exact .inl (List.mem_append_left _ (hF x z))
      · exact .inl z) (.of s03) (.sh (r.sm (del_new s03 fun x hx => by
      rcases List.mem_append.mp hx with z | z
      · exact .inl (List.mem_append_left _ (hF x z))
      · exact .inl z))) List.nodup_nil (fun x hx => nomatch hx)
  obtain ⟨F', S', st⟩ := up H3 (vs.set j y) (ts.set j (.sh d)) F2' s03 (fun x hx => (sub x hx).elim .inl fun z => nomatch z) nF' (hts'.less (del_sub fun x hx => by
      rcases List.mem_append.mp hx with z | z
      · rcases sub x z with z | z
        · exact List.mem_append_left _ z
        · cases z
      · exact List.mem_append_right _ z))
  exact ⟨q', vs, m, j, rfl, r3.intE, s03 _ _ ha, by rw [hts.len]; exact q, Qh σ _ F' S' st⟩
/-- a, b = -/
theorem Gs.tup2 {kt : Nat} (hX : XF M N sc fc k X) (h1 : Gs X ρ t1 d1 ρ1) (h2 : Gs X ρ1 t2 d2 ρ2) (e1 : (assignEach [t1, t2] X.env).map (·.2) = assign t1 X.env :: (assignEach [t2] X.env).map (·.2) := by rfl) (e2 : (assignEach [t2] X.env).map (·.2) = assign t2 X.env :: (assignEach [] X.env).map (·.2) := by rfl)
    (hn : (assignEach [t1, t2] X.env).length = 2 := by rfl) (hst : (assignEach [t1, t2] X.env).findIdx? (·.1) = none := by rfl) : Gs X ρ (.Tuple [t1, t2] kt pos) (.tup [d1, d2]) ρ2 := by
  obtain ⟨g1, pg1, q1⟩ := h1
  obtain ⟨g2, pg2, q2⟩ := h2
  refine ⟨_, pg_tup hX.calm (pgs_cons pg1 (pgs_cons pg2 pgs_nil e2) e1) hn hst, fun σ H F G v Q S r Qh => ?_⟩
  cases r with
  | tup hs rs =>
    cases rs with
    | cons r1 rs =>
      cases rs with
      | cons r2 rs =>
        cases rs
        refine ⟨_, _, rfl, SqT.sm del_le hs, rfl, _, _, rfl, q1 σ H F G _ _ S r1 fun σ1 H1 F1 S1 st1 => ⟨_, _, rfl, q2 σ1 H1 F1 G _ _ S1 (r2.sm st1.sh) fun σ2 H2 F2 S2 st2 => ⟨rfl, Qh σ2 H2 F2 S2 (st1.trans st2)⟩⟩⟩
theorem Sm.sto (he : Ev X ρ e (.sh d)) (hg : Gs X ρ tg d ρ1) (h : K.nx ρ1) (hs : swapsWithSole [tg] e pos.line X.env = pure false := by rfl) (hw : swappedStores [tg] e X.env = pure none := by rfl) (h1 : (assignEach [tg] X.env).map (·.2) = [assign tg X.env] := by rfl) : Sm X ρ (.Assign [tg] e pos) K := fun σ H F G D S w => by
  obtain ⟨g, pg, q⟩ := hg
  refine bestS.of (ps_asg pe_best pg hs hw h1) (he σ H F G _ S fun v H' E r => ?_)
  have r' := r.rt
  cases r' with
  | sh r' => exact q σ H' F G v _ (S.sm r.sm) r' fun σ' H2 F' S' st => w.nx σ' H2 _ F' S' ((Stp.of r.sm).trans st) h
/-- x, y = a, b: x or y is not just the def's own name; own nodes stay own -/
theorem Sm.parO {kt k2 : Nat} (hX : XF M N sc fc k X) (i j : Nat) (ha : EvA X ρ [a, b] [t, u]) (h : K.nx ((ρ.set i (some t)).set j (some u)))
    (hw : swappedStores [.Tuple [.Name x p1, .Name y p2] kt pt] (.Tuple [a, b] k2 pt2) (env0 sc) = pure none := by rfl) (hN : N[i]? = some x := by rfl) (hN2 : N[j]? = some y := by rfl) (hl : locB sc fc x = true := by decide +kernel) (hl2 : locB sc fc y = true := by decide +kernel)
    (hs : swapsWithSole [.Tuple [.Name x p1, .Name y p2] kt pt] (.Tuple [a, b] k2 pt2) pos.line X.env = pure false := by rfl) (h1 : (assignEach [.Tuple [.Name x p1, .Name y p2] kt pt] X.env).map (·.2) = [assign (.Tuple [.Name x p1, .Name y p2] kt pt) X.env] := by rfl) : Sm X ρ (.Assign [.Tuple [.Name x p1, .Name y p2] kt pt] (.Tuple [a, b] k2 pt2) pos) K := fun σ H F G D S w => by
  refine bestS.of (ps_asg (pe_tup pa_best) (hX.pg2 i j hN hl hN2 hl2 rfl) hs (by rw [swapped_eq, hX.s]; exact hw) h1) (ha σ H F G _ S fun vs H1 E r => ⟨by rw [r.rt.len]; exact Nat.le_of_lt (small1000 (n := 2) (by decide)), fun p hp => ?_⟩)
  have rt := r.rt
  have r' : ResA X.K (F ++ G) H (upd H1 p (.tup vs)) vs [t, u] E := ⟨r.sm.trans (same_upd hp), r.fr, r.nd, rt.sm (del_sm (same_upd hp)) (.of (same_upd hp))⟩
  cases rt with
  | @cons v _ _ _ _ _ a1 a2 =>
    cases a2 with
    | @cons v2 _ _ _ _ _ a2 a3 =>
      cases a3
      obtain ⟨F', S', st⟩ := S.put2 r' i j
      exact ⟨p, _, rfl, SqT.of upd_same, rfl, v, [v2], rfl, v2, [], rfl, rfl, w.nx _ _ _ F' S' st h⟩
end
/-! ### any of numbers -/
theorem truth_ints {prog : Program} {w : World} {A : Around} : ∀ {ns : List Int} {us : List Value}, Vals (ns.map V.int) us →
    TruthOf prog w A (fun i v => us.toArray[i]? = some v) (fun i => (ns.map fun n => !decide (n = 0)).getD i false) := fun {ns us} r i v s Q E hv hq => by
  have hv' : us[i]? = some v := by simpa using hv
  have key : ∀ {ns : List Int} {us : List Value} {i : Nat} {v : Value}, Vals (ns.map V.int) us → us[i]? = some v → ∃ n t, v = .int n t ∧ ns[i]? = some n := by
    intro ns
    induction ns with
    | nil =>
      intro us i v r h
      cases r
      cases h
    | cons n ns ih =>
      intro us i v r h
      cases r with
      | cons a b =>
        cases i with
        | zero =>
          cases h
          obtain ⟨t, rfl⟩ := a
          exact ⟨n, t, rfl, rfl⟩
        | succ i => exact ih b h
  obtain ⟨n, t, rfl, hn⟩ := key r hv'
  have hq : Q ((ns.map fun n => !decide (n = 0)).getD i false) s := hq
  rw [List.getD_eq_getElem?_getD, List.getElem?_map, hn] at hq
  have e : (!decide (n = 0)) = (n != 0) := by
    by_cases z : n = 0
    · subst z; rfl
    · rw [decide_eq_false z]; exact (bne_iff_ne.mpr z).symm
  have hq' : Q (!decide (n = 0)) s := hq
  rw [e] at hq'
  exact PyProof.Rows.truthy_int hq'
def rAnyI (K : PySem.W.Frag) : List V → Hp → VK → Prop := fun vs H Q => ∃ (a : Addr) (ns : List Int), vs = [V.ref a] ∧ SqL K H a (ns.map V.int) ∧ Q (.bl (ns.any fun n => !decide (n = 0))) H
theorem cr_anyI {X : Cx} (hc : X.calm = true) : CallR X (.builtin "any") (rAnyI X.K) := by
  intro pins s σ H vs us Q I r h
  obtain ⟨a, ns, rfl, hs, q⟩ := h
  obtain ⟨its, rv, hl, _⟩ := I.list hs
  rw [Vals.ref1 r]
  refine call_any_walk (iter_any hl.isList fun s₂ e2 st hne => ?_)
  subst e2
  refine ⟨_, _, _, _, _, _, _, rfl, Walks.list (A := X.A.in1) (I.ok.hd hc) _ a hne its.toArray, st, truth_ints rv, fun h' tk hk => ?_⟩
  refine ⟨.bl _, H, I.kept fun b o eo => hk b o (fun hmem => ?_) (Heap.get?_push_of_some _ eo), ?_, q⟩
  · rcases List.mem_cons.mp hmem with e1 | hmem
    · exact absurd (e1 ▸ Heap.lt_size eo) (Nat.lt_irrefl _)
    · cases hmem
  · show Value.bool _ = Value.bool _
    have l : ns.length = its.length := by rw [← rv.length, List.length_map]
    have e := any_range (ns.map fun n => !decide (n = 0))
    rw [List.length_map] at e
    rw [List.size_toArray, ← l, e, List.any_map]
    rfl
section
variable {M : Md} {N : List Str} {sc : Scope} {fc : Str → Bool} {k : Nat} {X : Cx} {ρ : Rho} {e : Expr} {p pos : Pos}
theorem e_anyI {ns : List Int} (hX : XF M N sc fc k X) (hm : M.mg "any" = none) (ha : Rd X ρ e (.lst (ns.map D.int))) (hs : starEach (e :: []) X.env = (false, eval e X.env) :: starEach [] X.env := by rfl) (hg : glB sc "any" = true := by decide +kernel) : Ev X ρ (.Call (.Name "any" p) [e] [] pos) (.sh (.bl (ns.any fun n => !decide (n = 0)))) :=
  callB hX (cr_anyI hX.calm) hg hm boot_any (by decide) trivial (.one ha hs) (fun vs H Q r q => by
    obtain ⟨v, rfl, r'⟩ := r.one
    cases r' with
    | lst h1 h2 =>
      rw [h2.ints] at h1
      exact ⟨_, ns, rfl, SqL.of h1, q _ (.bl _)⟩) hs
end
/-! ### the text of data -/
def rStrD (K : PySem.W.Frag) : List V → Hp → VK → Prop := fun vs H Q => ∃ a d, vs = [V.ref a] ∧ Dp K H (.ref a) d ∧ d.showable = true ∧ d.hasDict = false ∧ d.depth ≤ 60 ∧ d.shown.length ≤ sizeLine ∧ Q (.str d.shown) H
theorem cr_strD {X : Cx} (gd : X.A.guards = some []) (hu : X.A.units + 64 < cLine) : CallR X (.type "str") (rStrD X.K) := by
  intro pins s σ H vs us Q I r h
  obtain ⟨a, d, rfl, hd, hs, hn, hp, hz, q⟩ := h
  rw [Vals.ref1 r]
  obtain ⟨as, rd⟩ := Dp.reads I d (.ref a) (.ref a) hd rfl
  exact str_of_reads rd hs (fun z => by rw [hn] at z; cases z) gd (by omega) (fun _ _ e => e) (fun h' u tk hk => ⟨.str d.shown, H, I.kept hk, ⟨u, rfl⟩, q⟩) hz
/-- the signs of texts behind one another -/
def sgs : Nat → List Str → List Nat
  | _, [] => []
  | k, t :: ts => ((if k > 0 then ", " else "" : String) : Str).cps.toList ++ (t.cps.toList ++ sgs (k + 1) ts)
theorem cps_app (a b : Str) : (a ++ b).cps.toList = a.cps.toList ++ b.cps.toList := Array.toList_append
theorem textFrom_sgs : ∀ (ts : List Str) (k : Nat) (acc : Str), (textFrom k acc ts).cps.toList = acc.cps.toList ++ sgs k ts
  | [], k, acc => (List.append_nil _).symm
  | t :: ts, k, acc => by
    show (textFrom (k + 1) _ ts).cps.toList = _ ++ (_ ++ (_ ++ _))
    rw [textFrom_sgs ts (k + 1), cps_app, cps_app, List.append_assoc, List.append_assoc]
theorem listText_sgs (ts : List Str) : (listText ts).cps.toList = ("[" : Str).cps.toList ++ (sgs 0 ts ++ ("]" : Str).cps.toList) := by
  unfold listText
  rw [cps_app, textFrom_sgs, List.append_assoc]
def sgLen : Nat → Nat → Nat → Nat
  | _, _, 0 => 0
  | k, c, n + 1 => (((if k > 0 then ", " else "" : String) : Str).cps.toList).length + (c + sgLen (k + 1) c n)
theorem sgs_len {c : Nat} : ∀ (ts : List Str) (k : Nat), (∀ t ∈ ts, t.cps.toList.length = c) → (sgs k ts).length = sgLen k c ts.length
  | [], k, _ => rfl
  | t :: ts, k, h => by
    show (_ ++ (_ ++ sgs (k + 1) ts)).length = _
    rw [List.length_append, List.length_append, sgs_len ts (k + 1) fun x hx => h x (List.mem_cons_of_mem _ hx), h t (List.mem_cons_self ..)]
    rfl
theorem str_eq {a b : Str} (h : a.cps.toList = b.cps.toList) : a = b := by
  cases a
  cases b
  exact congrArg Str.mk (Array.toList_inj.mp h)
theorem sgs_inj {c : Nat} : ∀ (ts us : List Str) (k : Nat), ts.length = us.length → (∀ t ∈ ts, t.cps.toList.length = c) → (∀ t ∈ us, t.cps.toList.length = c) → sgs k ts = sgs k us → ts = us
  | [], [], _, _, _, _, _ => rfl
  | [], u :: us, _, h, _, _, _ => by cases h
  | t :: ts, [], _, h, _, _, _ => by cases h
  | t :: ts, u :: us, k, h, h1, h2, e => by
    have e1 := List.append_cancel_left (show _ ++ (t.cps.toList ++ sgs (k + 1) ts) = _ ++ (u.cps.toList ++ sgs (k + 1) us) from e)
    obtain ⟨e2, e3⟩ := List.append_inj e1 (by rw [h1 t (List.mem_cons_self ..), h2 u (List.mem_cons_self ..)])
    rw [str_eq e2, sgs_inj ts us (k + 1) (Nat.succ.inj h) (fun x hx => h1 x (List.mem_cons_of_mem _ hx)) (fun x hx => h2 x (List.mem_cons_of_mem _ hx)) e3]
theorem listText_inj {c : Nat} {ts us : List Str} (h : ts.length = us.length) (h1 : ∀ t ∈ ts, t.cps.toList.length = c) (h2 : ∀ t ∈ us, t.cps.toList.length = c) (e : listText ts = listText us) : ts = us := by
  have e1 := congrArg (fun s : Str => s.cps.toList) e
  have e2 : (listText ts).cps.toList = (listText us).cps.toList := e1
  rw [listText_sgs, listText_sgs] at e2
  have e3 := List.append_cancel_left e2
  exact sgs_inj ts us 0 h h1 h2 (List.append_cancel_right e3)
theorem listText_len {c : Nat} {ts : List Str} (h1 : ∀ t ∈ ts, t.cps.toList.length = c) : (listText ts).cps.toList.length = 2 + sgLen 0 c ts.length := by
  rw [listText_sgs, List.length_append, List.length_append, sgs_len ts 0 h1]
  have e1 : (("[" : Str).cps.toList).length = 1 := by decide +kernel
  have e2 : (("]" : Str).cps.toList).length = 1 := by decide +kernel
  rw [e1, e2]
  omega
theorem shownAll_map {α : Type} (f : α → D) : ∀ xs : List α, PyData.shownAll (pys (xs.map f)) = xs.map fun a => (py (f a)).shown
  | [] => rfl
  | a :: xs => by
    show _ :: PyData.shownAll (pys (xs.map f)) = _ :: _
    rw [shownAll_map f xs]
/-- one sign a rest -/
def dig (i : Int) : Str := toString i
theorem dig_ok {i : Int} (h0 : 0 ≤ i) (h7 : i < 7) : (dig i).cps.toList = [48 + i.toNat] := by
  have : i = 0 ∨ i = 1 ∨ i = 2 ∨ i = 3 ∨ i = 4 ∨ i = 5 ∨ i = 6 := by omega
  rcases this with e | e | e | e | e | e | e <;> subst e <;> decide +kernel
/-- the text of a row, of a table -/
def rowText (r : List Int) : Str := listText (r.map dig)
def tabText (t : List (List Int)) : Str := listText (t.map rowText)
theorem shown_dT (t : List (List Int)) : (py (dT t)).shown = tabText t := by
  show listText (PyData.shownAll (pys (t.map dR))) = _
  rw [shownAll_map]
  unfold tabText
  congr 1
  refine List.map_congr_left fun r _ => ?_
  show listText (PyData.shownAll (pys (r.map D.int))) = _
  rw [shownAll_map]
  rfl
theorem rowText_len {n : Nat} {r : List Int} (hl : r.length = n) (h : ∀ x ∈ r, 0 ≤ x ∧ x < 7) : (rowText r).cps.toList.length = 2 + sgLen 0 1 n := by
  unfold rowText
  rw [listText_len (c := 1) fun t ht => by
    obtain ⟨x, hx, rfl⟩ := List.mem_map.mp ht
    rw [dig_ok (h x hx).1 (h x hx).2]
    rfl, List.length_map, hl]
theorem map_inj_on {α β : Type} {f : α → β} : ∀ {xs ys : List α}, (∀ a ∈ xs, ∀ b ∈ ys, f a = f b → a = b) → xs.map f = ys.map f → xs = ys
  | [], [], _, _ => rfl
  | [], y :: ys, _, e => by cases e
  | x :: xs, [], _, e => by cases e
  | x :: xs, y :: ys, h, e => by
    have e := List.cons.inj e
    rw [h x (List.mem_cons_self ..) y (List.mem_cons_self ..) e.1, map_inj_on (fun a ha b hb => h a (List.mem_cons_of_mem _ ha) b (List.mem_cons_of_mem _ hb)) e.2]
theorem rowText_inj {n : Nat} {r s : List Int} (hr : r.length = n) (hs : s.length = n) (h1 : ∀ x ∈ r, 0 ≤ x ∧ x < 7) (h2 : ∀ x ∈ s, 0 ≤ x ∧ x < 7) (e : rowText r = rowText s) : r = s := by
  have e1 := listText_inj (c := 1) (by rw [List.length_map, List.length_map, hr, hs]) (fun t ht => by
    obtain ⟨x, hx, rfl⟩ := List.mem_map.mp ht
    rw [dig_ok (h1 x hx).1 (h1 x hx).2]
    rfl) (fun t ht => by
    obtain ⟨x, hx, rfl⟩ := List.mem_map.mp ht
    rw [dig_ok (h2 x hx).1 (h2 x hx).2]
    rfl) e
  refine map_inj_on (fun a ha b hb q => ?_) e1
  have q' := congrArg (fun s : Str => s.cps.toList) q
  have q2 : (dig a).cps.toList = (dig b).cps.toList := q'
  rw [dig_ok (h1 a ha).1 (h1 a ha).2, dig_ok (h2 b hb).1 (h2 b hb).2] at q2
  have := (List.cons.inj q2).1
  have := h1 a ha
  have := h2 b hb
  omega
theorem tabText_inj {n : Nat} {s t : List (List Int)} (hs : s.length = n) (ht : t.length = n) (h1 : ∀ r ∈ s, r.length = n ∧ ∀ x ∈ r, 0 ≤ x ∧ x < 7) (h2 : ∀ r ∈ t, r.length = n ∧ ∀ x ∈ r, 0 ≤ x ∧ x < 7) (e : tabText s = tabText t) : s = t := by
  have e1 := listText_inj (c := 2 + sgLen 0 1 n) (by rw [List.length_map, List.length_map, hs, ht]) (fun x hx => by
    obtain ⟨r, hr, rfl⟩ := List.mem_map.mp hx
    exact rowText_len (h1 r hr).1 (h1 r hr).2) (fun x hx => by
    obtain ⟨r, hr, rfl⟩ := List.mem_map.mp hx
    exact rowText_len (h2 r hr).1 (h2 r hr).2) e
  exact map_inj_on (fun a ha b hb q => rowText_inj (h1 a ha).1 (h2 b hb).1 (h1 a ha).2 (h2 b hb).2 q) e1
theorem showable_all {α : Type} (f : α → D) : ∀ xs : List α, (∀ a ∈ xs, (py (f a)).showable = true) → PyData.showableAll (pys (xs.map f)) = true
  | [], _ => rfl
  | a :: xs, h => by
    show ((py (f a)).showable && PyData.showableAll (pys (xs.map f))) = true
    rw [h a (List.mem_cons_self ..), showable_all f xs fun b hb => h b (List.mem_cons_of_mem _ hb)]
    rfl
section
variable {M : Md} {N : List Str} {sc : Scope} {fc : Str → Bool} {k : Nat} {X : Cx} {ρ : Rho} {e : Expr} {p pos : Pos}
/-- str(t), t a table -/
theorem e_strT {n : Nat} {t : List (List Int)} (hX : XF M N sc fc k X) (hm : M.mg "str" = none) (hn : n ≤ 3) (hl : t.length = n) (h : ∀ r ∈ t, r.length = n ∧ ∀ x ∈ r, 0 ≤ x ∧ x < 7) (ha : Rd X ρ e (dT t)) (hs : starEach (e :: []) X.env = (false, eval e X.env) :: starEach [] X.env := by rfl) (hg : glB sc "str" = true := by decide +kernel) :
    Ev X ρ (.Call (.Name "str" p) [e] [] pos) (.sh (.str (tabText t))) :=
  callTy hX (cr_strD hX.gd hX.room.units) hg hm PyProof.Rows.boot_str (by decide) trivial (.one ha hs) (fun vs H Q r q => by
    obtain ⟨v, rfl, r'⟩ := r.one
    have ok := ok_dT t
    have hd := r'.dp ok.1
    have sl : (py (dT t)).shown.length ≤ sizeLine := by
      rw [shown_dT]
      show (tabText t).cps.size ≤ _
      rw [← Array.length_toList]
      unfold tabText
      rw [listText_len (c := 2 + sgLen 0 1 n) fun x hx => by
        obtain ⟨r, hr, rfl⟩ := List.mem_map.mp hx
        exact rowText_len (h r hr).1 (h r hr).2, List.length_map, hl]
      have : n = 0 ∨ n = 1 ∨ n = 2 ∨ n = 3 := by omega
      refine Nat.le_of_lt (small1000 ?_)
      rcases this with e | e | e | e <;> subst e <;> decide +kernel
    have ss : (py (dT t)).showable = true := by
      show PyData.showableAll (pys (t.map dR)) = true
      refine showable_all dR t fun r hr => ?_
      show PyData.showableAll (pys (r.map D.int)) = true
      refine showable_all D.int r fun x hx => ?_
      show decide (x.natAbs.log2 < 1920) = true
      have hx := (h r hr).2 x hx
      refine decide_eq_true ?_
      by_cases z : x.natAbs = 0
      · rw [z]
        decide
      · refine Nat.lt_trans ((Nat.log2_lt z).mpr (show x.natAbs < 2 ^ 3 by omega)) (by decide)
    have q' := q (.str (tabText t)) (.str _)
    cases r' with
    | lst h1 h2 => exact ⟨_, _, rfl, hd, ss, PyData.hasDict_of_canLay _ (pl_lay _ ok.1), Nat.le_trans ok.2 (by decide), sl, by rw [shown_dT]; exact q'⟩) hs
end
/-! ### dicts of one's own -/
def valD (ds : List (Key × D)) (k : Key) : Option D := (ds.find? fun kv => decide (kv.1 = k)).map (·.2)
theorem valD_nil {k : Key} : valD [] k = none := rfl
theorem valD_snoc (ds : List (Key × D)) (k j : Key) (d : D) (h : valD ds k = none) : valD (ds ++ [(k, d)]) j = if j = k then some d else valD ds j := by
  unfold valD at h ⊢
  rw [List.find?_append]
  by_cases e : j = k
  · subst e
    rw [if_pos rfl]
    cases q : ds.find? fun kv => decide (kv.1 = j) with
    | some x => rw [q] at h; cases h
    | none =>
      rw [List.find?_cons_of_pos (by simp)]
      rfl
  · rw [if_neg e]
    cases q : ds.find? fun kv => decide (kv.1 = j) with
    | some x => rfl
    | none =>
      rw [List.find?_cons_of_neg (by simpa using fun z => e z.symm)]
      rfl
section
variable {K : PySem.W.Frag} {H : Hp}
theorem Rpk.val : ∀ {vs : List (Key × V)} {ds : List (Key × D)}, Rpk K H vs ds → ∀ k, (valV vs k = none ∧ valD ds k = none) ∨ ∃ v d, valV vs k = some v ∧ valD ds k = some d ∧ Rp K H v d
  | _, _, .nil, k => .inl ⟨rfl, rfl⟩
  | _, _, .cons (n := n) (v := v) (d := d) (ds := ds) h hs, k => by
    by_cases e : n = k
    · refine .inr ⟨v, d, valV_pos e, ?_, h⟩
      unfold valD
      rw [List.find?_cons_of_pos (by simpa using e)]
      rfl
    · have e2 : valD ((n, d) :: ds) k = valD ds k := by
        unfold valD
        rw [List.find?_cons_of_neg (by simpa using e)]
      rw [valV_neg e, e2]
      exact Rpk.val hs k
theorem Rpk.snoc {k : Key} {v : V} {d : D} (r : Rp K H v d) : ∀ {vs : List (Key × V)} {ds : List (Key × D)}, Rpk K H vs ds → Rpk K H (vs ++ [(k, v)]) (ds ++ [(k, d)])
  | _, _, .nil => .cons r .nil
  | _, _, .cons h hs => .cons h (Rpk.snoc r hs)
theorem Rpk.len : ∀ {vs : List (Key × V)} {ds : List (Key × D)}, Rpk K H vs ds → vs.length = ds.length
  | _, _, .nil => rfl
  | _, _, .cons _ hs => congrArg Nat.succ (Rpk.len hs)
theorem Rpk.snd : ∀ {vs : List (Key × V)} {ds : List (Key × D)}, Rpk K H vs ds → Rps K H (vs.map (·.2)) (ds.map (·.2))
  | _, _, .nil => .nil
  | _, _, .cons h hs => .cons h (Rpk.snd hs)
end
/-- a slot's own dict, and what its change makes of the state -/
theorem S3.dic {K : PySem.W.Frag} {G F : List Addr} {H : Hp} {σ : L2.St} {ρ : Rho} {i : Nat} {ds : List (Key × D)} (S : S3 K G σ H ρ F) (hr : ρ[i]? = some (some (.dic ds))) :
    ∃ a vs, σ[i]? = some (some (.ref a)) ∧ H a = some (.dK vs) ∧ Rpk K (del (F ++ G) H) vs ds ∧
      ∀ (H2 : Hp) (vs' : List (Key × V)) (ds' : List (Key × D)), Same H H2 → Rpk K (del (F ++ G) H2) vs' ds' → S3 K G σ (upd H2 a (.dK vs')) (ρ.set i (some (.dic ds'))) F ∧ Stp G F F H (upd H2 a (.dK vs')) := by
  obtain ⟨v, F1, F2, F3, e1, r, e2, f⟩ := S.ro.get hr
  cases r with
  | @dic a vs _ ha hk =>
    have hF : F = F1 ++ ([a] ++ F3) := e2
    have aF : a ∈ F := by rw [hF]; simp
    refine ⟨a, vs, e1, ha, hk, fun H2 vs' ds' sm rk => ?_⟩
    have s1 : Same (del (F ++ G) H) (del (F ++ G) (upd H2 a (.dK vs'))) := fun b o q => by
      obtain ⟨q1, q2⟩ := del_some q
      refine (del_out q1).trans ((upd_ne fun z => q1 ?_).trans (sm _ _ q2))
      rw [z]
      exact List.mem_append_left _ aF
    have s2 : Same (del (F ++ G) H2) (del (F ++ G) (upd H2 a (.dK vs'))) := fun b o q => by
      obtain ⟨q1, q2⟩ := del_some q
      refine (del_out q1).trans ((upd_ne fun z => q1 ?_).trans q2)
      rw [z]
      exact List.mem_append_left _ aF
    have nd := S.nd
    have ap : ∀ b ∈ F1 ++ F3, b ≠ a := fun b hb z => by
      rw [hF] at nd
      subst z
      simp only [List.nodup_append, List.mem_append, List.mem_cons, List.not_mem_nil, or_false] at nd hb
      obtain ⟨⟨_, ⟨_, _, n3⟩, n2⟩, _⟩ := nd
      rcases hb with z | z
      · exact n2 b z b (.inl rfl) rfl
      · exact n3 b rfl b z rfl
    have aG : a ∉ G := fun z => (List.nodup_append.mp nd).2.2 a aF a z rfl
    have ro := f (.ref a) (del (F ++ G) (upd H2 a (.dK vs'))) (upd H2 a (.dK vs')) (.dic ds') [a] s1 (fun b hb o q => (upd_ne (ap b hb)).trans (sm _ _ q)) (.dic upd_same (rk.sm s2))
    rw [← hF, set_self e1] at ro
    refine ⟨⟨ro, nd, fun b hb => ?_⟩, s1, fun b hb o q => (upd_ne fun z => aG (by rw [← z]; exact hb)).trans (sm _ _ q)⟩
    obtain ⟨o, q⟩ := S.gs b hb
    exact ⟨o, (upd_ne fun z => aG (by rw [← z]; exact hb)).trans (sm _ _ q)⟩
section
variable {M : Md} {N : List Str} {sc : Scope} {fc : Str → Bool} {k : Nat} {X : Cx} {ρ : Rho} {e a b c o : Expr} {es : List Expr} {t u : T} {d : D} {ds : List (Key × D)} {pos apos p p1 p2 p3 pt : Pos} {x y : Str} {K : K3} {i : Nat}
/-- {} -/
theorem Ev.dic0 : Ev X ρ (.Dict [] [] pos) (.dic []) := fun σ H F G Q S k => best.of pe_dnewK fun p hp => k (.ref p) _ [p] ⟨same_upd hp, fun a ha => by rw [List.mem_singleton.mp ha]; exact hp, List.nodup_cons.mpr ⟨(fun h => nomatch h), List.nodup_nil⟩, .dic upd_same .nil⟩
/-- a dict's name, what is evaluated ahead of it, what is asked of it -/
theorem dic_core (hX : XF M N sc fc k X) (i : Nat) (hr : ρ[i]? = some (some (.dic ds))) (hN : N[i]? = some x) (hv : visB sc x = true) {pos : Pos} {σ : L2.St} {H : Hp} {F G : List Addr} (S : S3 X.K G σ H ρ F) {Q : VK}
    (h : ∀ a vs, σ[i]? = some (some (.ref a)) → H a = some (.dK vs) → Rpk X.K (del (F ++ G) H) vs ds → Q (.ref a) H) : best X (.Name x pos) σ H Q := by
  obtain ⟨a, vs, e1, ha, hk, _⟩ := S.dic hr
  obtain ⟨v1, v2, v3⟩ := visB_ok hv
  exact best.of (pe_var (by rw [hX.n]; exact hN) (by rw [hX.s]; exact v1) v2 v3) ⟨.ref a, e1, h a vs e1 ha hk⟩
theorem u1 (hX : XF M N sc fc k X) : X.A.units + 1 < cLine := hu_of hX.room
/-- s not in d, s a text -/
theorem Te.dnin {s : Str} (hX : XF M N sc fc k X) (i : Nat) (he : Rd X ρ e (.str s)) (hr : ρ[i]? = some (some (.dic ds)) := by rfl) (hN : N[i]? = some x := by rfl) (hv : visB sc x = true := by decide +kernel) (hm : behindInMarks .NotIn (.Name x p) = false := by first | exact nomark _ | rfl) :
    Te X ρ (.Compare e [.NotIn] [.Name x p] pos) (valD ds (.inr s)).isNone := fun σ H F G Q S k =>
  bestT.of (pt_cmp (pc_dnotin (u1 hX) pe_best pe_best) hm) (he σ H F G _ S fun v H1 s1 r1 => dic_core hX i hr hN hv (S.sm s1) fun a vs _ ha hk => by
    rw [r1.strE]
    refine ⟨a, valV vs (.inr s), rfl, DGet.k (k := .inr s) ha, _, rfl, ?_⟩
    have : (!(valV vs (.inr s)).isSome) = (valD ds (.inr s)).isNone := by
      rcases hk.val (.inr s) with ⟨e1, e2⟩ | ⟨v, d, e1, e2, _⟩ <;> rw [e1, e2] <;> rfl
    rw [this]
    exact k H1 s1)
/-- d[s] -/
theorem Ev.dget {s : Str} (hX : XF M N sc fc k X) (i : Nat) (he : Rd X ρ e (.str s)) (hd : valD ds (.inr s) = some d) (hs : NoSl e := by intro _ _; rfl) (hr : ρ[i]? = some (some (.dic ds)) := by rfl) (hN : N[i]? = some x := by rfl) (hv : visB sc x = true := by decide +kernel) : Ev X ρ (.Subscript (.Name x p) e pos) (.sh d) := fun σ H F G Q S k =>
  best.of (pe_dget (u1 hX) pe_best pe_best hs) (dic_core hX i hr hN hv S fun a vs _ ha hk => he σ H F G _ S fun v H1 s1 r1 => by
    rw [r1.strE]
    rcases hk.val (.inr s) with ⟨_, e2⟩ | ⟨v, d', e1, e2, r⟩
    · rw [hd] at e2
      cases e2
    · rw [hd] at e2
      cases e2
      exact ⟨a, v, rfl, by have := DGet.k (k := .inr s) (s1 _ _ ha); rw [e1] at this; exact this, k v H1 [] ⟨s1, (fun a z => nomatch z), List.nodup_nil, .sh (r.sm (del_sm s1))⟩⟩)
/-- d[s] = e, s new -/
theorem Sm.dput {s : Str} (hX : XF M N sc fc k X) (i : Nat) (he : Ev X ρ e (.sh d)) (hs : Rd X ρ b (.str s)) (hd : valD ds (.inr s) = none) (hz : ds.length < 1000) (h : K.nx (ρ.set i (some (.dic (ds ++ [(.inr s, d)]))))) (hr : ρ[i]? = some (some (.dic ds)) := by rfl) (hN : N[i]? = some x := by rfl) (hv : visB sc x = true := by decide +kernel)
    (sw : swapsWith e (some (.Subscript (.Name x p1) b p)) pos.line X.env = pure false := by exact sw_no rfl) : Sm X ρ (.Assign [.Subscript (.Name x p1) b p] e pos) K := fun σ H F G D S w =>
  bestS.of (ps_dput (u1 hX) pe_best pe_best pe_best sw) (he σ H F G _ S fun v H1 E r => by
    have rt := r.rt
    cases rt with
    | sh rv =>
      refine dic_core hX i hr hN hv (S.sm r.sm) fun a vs ea ha hk => hs σ H1 F G _ (S.sm r.sm) fun v2 H2 s2 r2 => ?_
      rw [r2.strE]
      obtain ⟨a', vs', e1, ha', hk', up⟩ := S.dic hr
      rw [ea] at e1
      cases e1
      have nv : valV vs (.inr s) = none := by
        rcases hk.val (.inr s) with ⟨z, _⟩ | ⟨_, _, _, z, _⟩
        · exact z
        · rw [hd] at z
          cases z
      obtain ⟨S', st⟩ := up H2 (vs ++ [(.inr s, v)]) (ds ++ [(.inr s, d)]) (r.sm.trans s2) ((hk.sm (del_sm s2)).snoc (Rp.sm (H := del (F ++ G) H1) (del_sm s2) rv))
      have dp := DPut.k (k := .inr s) (v := v) (s2 _ _ ha) (by rw [hk.len]; exact small1000 (Nat.le_of_lt hz))
      rw [putK_new v nv] at dp
      exact ⟨a, _, rfl, dp, w.nx _ _ _ F S' st h⟩)
/-- len(d) -/
theorem e_lenD (hX : XF M N sc fc k X) (hm : M.mg "len" = none) (i : Nat) (hr : ρ[i]? = some (some (.dic ds)) := by rfl) (hN : N[i]? = some x := by rfl) (hv : visB sc x = true := by decide +kernel)
    (hs : starEach (.Name x p1 :: []) X.env = (false, eval (.Name x p1) X.env) :: starEach [] X.env := by rfl) (hg : glB sc "len" = true := by decide +kernel) : Ev X ρ (.Call (.Name "len" p) [.Name x p1] [] pos) (.sh (.int ds.length)) := by
  obtain ⟨h1, h2⟩ := hX.gl hg
  refine Ev.of_sc (pe_callB call_lenD h1 (by rw [hX.m]; exact hm) PySem.boot_len (pa_cons pe_best pa_nil hs) (by decide) h2 hs rfl) trivial fun σ H F G Q S kk => dic_core hX i hr hN hv S fun a vs _ ha hk => ?_
  refine ⟨a, vs, rfl, ha, ?_⟩
  rw [hk.len]
  exact kk _ H (.refl _) (.int _)
/-- a view of a dict's values -/
def vwO (p a : Addr) : HO := .ext fun h => h.IsValuesView p a
/-- e.values() -/
theorem pe_vals {X : Cx} {e : Expr} {te : TE} {apos pos : Pos} (he : PE X e te) (hb : attributeBase e "values" X.env (eval e X.env) = eval e X.env) (hl : (apos.endLine == pos.line) = true) :
    PE X (.Call (.Attribute e "values" apos) [] [] pos) fun σ H Q => te σ H fun x H1 => ∃ a kvs, x = .ref a ∧ H1 a = some (.dK kvs) ∧ ∀ p, H1 p = none → Q (.ref p) (upd H1 p (vwO p a)) := by
  refine ⟨fun pins s σ H Q I h => wpAny_Call_method (T := "dict") (id := "dict.values") hb rfl hl PySem.F.plainAttrs_dict PySem.F.slot_dict_values PySem.F.type_dict_values (thn (he.run pins s σ H _ I h) fun u s1 ⟨x, H1, I1, rx, a, kvs, ex, ha, q⟩ => ?_)⟩
  cases ex
  cases rx
  obtain ⟨_, lo, vs, _, hd⟩ := dk_of I1.hok ha
  refine ⟨hd.typeIs, hd.mapOf.noDict, ?_⟩
  show wpAny _ _ (callWith pos (.builtin "dict.values") [.ref a] [] []) _ X.xe s1
  refine method_meetsIn PySem.F.slot_dict_values PySem.F.entry_dict_values rfl (PySem.evalArgs_none ⟨rfl, hd.typeIs, PySem.F.args_dict_values_1 _, _, meets_dict_values (mixKind X.prog X.w) a lo, ⟨vs, hd⟩, ?_⟩)
  have hg := Heap.get?_push_size (h := s1.heap) (o := { cls := .type "dict_values", data := .fields #[.ref a] }) rfl
  exact ⟨.ref s1.heap.objs.size, _, I1.laid (t' := s1.toks) (o := vwO s1.heap.objs.size a) (fun b o e => Heap.get?_push_of_some _ e) (Nat.le_refl _) ⟨⟨_, hg, rfl, rfl⟩, ⟨_, hg⟩, fun h1 h2 ⟨o, e1, e2, e3⟩ k => ⟨o, k o e1, e2, e3⟩⟩, rfl, q _ (I1.hok.fresh (Nat.le_refl _))⟩
/-- list(view) -/
def rListV : List V → Hp → VK → Prop := fun vs H Q => ∃ p a kvs, vs = [V.ref p] ∧ H p = some (vwO p a) ∧ H a = some (.dK kvs) ∧ ∀ q, H q = none → Q (.ref q) (upd H q (.lst (kvs.map (·.2))))
theorem kv_at : ∀ {kvs : List (Key × V)} {ws : List (Key × Value)}, KV kvs ws → ∀ {j : Nat} {x : V}, (kvs.map (·.2))[j]? = some x → ∃ k w, ws[j]? = some (k, w) ∧ RelV x w
  | _, _, .nil, j, x, h => by cases h
  | _, _, .cons (b := y) r rs, 0, x, h => by
    cases h
    exact ⟨y.1, y.2, rfl, r.2⟩
  | _, _, .cons r rs, j + 1, x, h => kv_at rs (j := j) h
theorem cr_listV {X : Cx} (hc : X.calm = true) : CallR X (.type "list") rListV := by
  intro pins s σ H vs us Q I r h
  obtain ⟨p, a, kvs, rfl, hp, ha, q⟩ := h
  rw [Vals.ref1 r]
  have hv : s.heap.IsValuesView p a := (show ObjOk X.prog X.w H s.heap p (vwO p a) from I.hok p _ hp).1
  obtain ⟨hz, lo, ws, kv, hd⟩ := dk_of I.hok ha
  obtain ⟨es, ep, hr, hn, hes⟩ := hd.raw
  have hl : kvs.length = ws.length := kv.length
  refine PySem.W.kdl_call (PySem.KdlSrc.rawValues (r := p) (d := a) (es := es) (ep := ep)) (I.ok.hd hc) ⟨hv, hr⟩ (by rw [hn, ← hl]; exact hz) fun h' tk acc c hk hS hacc => ?_
  refine ⟨.ref s.heap.objs.size, upd H s.heap.objs.size (.lst (kvs.map (·.2))), I.laid hk (Nat.le_refl _) (show ObjOk X.prog X.w _ _ _ (.lst (kvs.map (·.2))) from ⟨by rw [List.length_map]; exact hz, acc.toList, c, ?_, by rw [Array.toArray_toList]; exact hS⟩), rfl, q _ (I.hok.fresh (Nat.le_refl _))⟩
  refine vals_of_at (by
    have e := hacc.1
    rw [← Array.length_toList] at e
    rw [List.length_map, e, hn, hl]) fun j x u h1 h2 => ?_
  obtain ⟨hi, e⟩ := hacc.2 j u (by rw [← Array.getElem?_toList]; exact h2)
  obtain ⟨k, w, hw, rw'⟩ := kv_at kv h1
  rw [e, (hes j hi k w hw).2]
  exact rw'
/-- list(d.values()) -/
theorem e_vals {X : Cx} {M : Md} {N : List Str} {sc : Scope} {fc : Str → Bool} {k : Nat} {ρ : Rho} {x : Str} {ds : List (Key × D)} {p p1 pos apos : Pos} {es : List Expr} (hX : XF M N sc fc k X) (hm : M.mg "list" = none) (i : Nat) (hr : ρ[i]? = some (some (.dic ds)) := by rfl) (hN : N[i]? = some x := by rfl) (hv : visB sc x = true := by decide +kernel)
    (hb : attributeBase (.Name x p) "values" X.env (eval (.Name x p) X.env) = eval (.Name x p) X.env := by rfl) (hl : (apos.endLine == p1.line) = true := by rfl)
    (hs : starEach (.Call (.Attribute (.Name x p) "values" apos) [] [] p1 :: []) X.env = (false, eval (.Call (.Attribute (.Name x p) "values" apos) [] [] p1) X.env) :: starEach [] X.env := by rfl) (hg : glB sc "list" = true := by decide +kernel) :
    Ev X ρ (.Call (.Name "list" p2) [.Call (.Attribute (.Name x p) "values" apos) [] [] p1] [] pos) (.lst ((ds.map (·.2)).map T.sh)) := by
  obtain ⟨h1, h2⟩ := hX.gl hg
  intro σ H F G Q S kk
  refine best.of (pe_callTy (cr_listV hX.calm) h1 (by rw [hX.m]; exact hm) PyProof.Rows.boot_list (pa_cons (pe_vals pe_best hb hl) pa_nil hs) (by decide) h2 hs rfl) (dic_core hX i hr hN hv S fun a vs _ ha hk => ⟨a, vs, rfl, ha, fun q hq => ?_⟩)
  have s1 : Same H (upd H q (vwO q a)) := same_upd hq
  refine ⟨q, a, vs, rfl, upd_same, s1 _ _ ha, fun z hz => ?_⟩
  exact kk _ _ _ (new_sh S s1 (hk.snd.sm (del_sm s1)) hz)
end
/-! ### l.index(x) -/
section
variable {M : Md} {N : List Str} {sc : Scope} {fc : Str → Bool} {k : Nat} {X : Cx} {ρ : Rho} {e o : Expr} {pos apos p : Pos}
theorem e_index {α : Type} [DecidableEq α] {f : α → D} {x : α} {ys : List α} {n m j : Nat} (hX : XF M N sc fc k X) (inj : ∀ a b, eqb (f a) (f b) = decide (a = b)) (hx : Ok n (f x)) (hy : Ok m (.lst (ys.map f))) (ho : Rd X ρ o (.lst (ys.map f))) (he : Rd X ρ e (f x)) (hj : ys[j]? = some x) (hno : ∀ i, i < j → ys[i]? ≠ some x)
    (hn : n ≤ 64 := by decide) (hm : m ≤ 64 := by decide) (mb : MB X o "index" e [] apos p := by exact ⟨rfl, rfl, rfl, rfl, rfl⟩) : Ev X ρ (.Call (.Attribute o "index" apos) [e] [] p) (tI j) := by
  obtain ⟨m1, m2, m3, m4, m5⟩ := mb
  refine Ev.of_sc (pe_bm PySem.F.plainAttrs_list PySem.F.slot_list_index PySem.F.type_list_index (mt_indexD (by have := hX.room.un; omega)) pe_best (pa_cons pe_best pa_nil m4) m1 m2 m3 m4 m5) trivial fun σ H F G Q S kk => ho σ H F G _ S fun v H1 s1 r1 => ?_
  cases r1 with
  | @lst a vs _ ha rs =>
    refine ⟨.inl ⟨rfl, vs, SqL.of ha⟩, he σ H1 F G _ (S.sm s1) fun y H2 s2 r2 => ?_⟩
    have r3 : Rp X.K H2 (.ref a) (.lst (ys.map f)) := .lst (s2 _ _ ha) (rs.sm s2)
    refine ⟨a, y, py (f x), pys (ys.map f), j, py (f x), rfl, rfl, r3.dp hy.1, r2.dp hx.1, hy.shaped hm, hx.shaped hn, ?_, ?_, fun i z hi hz => ?_, kk _ _ (s1.trans s2) (.int _)⟩
    · rw [pys_map, List.getElem?_map, hj]
      rfl
    · show eqb (f x) (f x) = true
      rw [inj, decide_eq_true rfl]
    · rw [pys_map, List.getElem?_map] at hz
      cases q : ys[i]? with
      | none => rw [q] at hz; cases hz
      | some y' =>
        rw [q] at hz
        cases hz
        show eqb (f y') (f x) = false
        rw [inj, decide_eq_false fun z => hno i hi (by rw [q, z])]
/-- x, y, z = a, b, c: all the def's own names -/
theorem Sm.par3 {a b c : Expr} {t u s : T} {x y z : Str} {px py pz pt pt2 : Pos} {kt k2 : Nat} {K : K3} (hX : XF M N sc fc k X) (i j l : Nat) (ha : EvA X ρ [a, b, c] [t, u, s]) (h : K.nx (((ρ.set i (some t)).set j (some u)).set l (some s)))
    (hw : swappedStores [.Tuple [.Name x px, .Name y py, .Name z pz] kt pt] (.Tuple [a, b, c] k2 pt2) (env0 sc) = pure (some [x, y, z]) := by rfl) (hN : N[i]? = some x := by rfl) (hN2 : N[j]? = some y := by rfl) (hN3 : N[l]? = some z := by rfl) (hl : sc.names.lookup x = some .local := by decide +kernel) (hl2 : sc.names.lookup y = some .local := by decide +kernel) (hl3 : sc.names.lookup z = some .local := by decide +kernel)
    (hij : i ≠ j := by decide) (hil : i ≠ l := by decide) (hjl : j ≠ l := by decide)
    (hs : swapsWithSole [.Tuple [.Name x px, .Name y py, .Name z pz] kt pt] (.Tuple [a, b, c] k2 pt2) pos.line X.env = pure false := by rfl) : Sm X ρ (.Assign [.Tuple [.Name x px, .Name y py, .Name z pz] kt pt] (.Tuple [a, b, c] k2 pt2) pos) K := fun σ H F G D S w => by
  refine bestS.of (ps_par3 (i := i) (j := j) (l := l) hX.calm (by rw [hX.n]; exact hX.nd) (by rw [hX.n]; exact hN) (by rw [hX.n]; exact hN2) (by rw [hX.n]; exact hN3) hij hil hjl (by rw [hX.s]; exact hl) (by rw [hX.s]; exact hl2) (by rw [hX.s]; exact hl3) pa_best (by rw [swapped_eq, hX.s]; exact hw) hs) (ha σ H F G _ S fun vs H' E r => ?_)
  have rt := r.rt
  cases rt with
  | cons a1 a2 =>
    cases a2 with
    | cons a2 a3 =>
      cases a3 with
      | cons a3 a4 =>
        cases a4
        obtain ⟨F', S', st⟩ := S.put3 r i j l
        exact ⟨_, _, _, rfl, w.nx _ H' _ F' S' st h⟩
end
/-! ### sum(lists, []) -/
section
open PySem.Calls
variable {prog : Program} {w : World} {A : Around} {R : Result → Shared → Prop} {I : Addr} {fp wr : List Addr} {G : Array GenState → Array GenState → Prop} {P : Nat → Value → Prop} {St : Nat → Shared → Prop}
abbrev lstO (its : List Value) (c : Nat) : Obj := { cls := .type "list", data := .seq its.toArray c }
theorem codeAny_sumLL {xs : List (List Value)} (W : WalksS prog w A.in1 I fp wr G xs.length P St) (h0 : Heap) (hval : ∀ i v, P i v → ∃ b c its, v = .ref b ∧ xs[i]? = some its ∧ h0.get? b = some (lstO its c)) (S : Addr) (hSf : S ∉ fp) (hS0 : h0.objs.size ≤ S) (hw : ∀ b ∈ wr, b ∉ [S] → h0.objs.size ≤ b) (hwI : ∀ i s, St i s → ∀ b ∈ wr, b < s.heap.objs.size) :
    ∀ (k i : Nat) (s : Shared) (a : Addr) (its : List Value) (c0 c : Nat), xs.length - i = k → i ≤ xs.length → St i s → (∀ b o, h0.get? b = some o → s.heap.get? b = some o) → s.heap.get? a = some (lstO its c0) → a ∉ S :: wr → its.length + (xs.drop i).flatten.length ≤ sizeLine → s.heap.get? S = some { cls := .type "list", dict := none, data := .seq #[.ref a] c, slots := #[] } →
    (∀ s' a' c', s'.heap.get? a' = some (lstO (its ++ (xs.drop i).flatten) c') → (i < xs.length → h0.objs.size ≤ a') → (i = xs.length → a' = a) → (∀ b o, h0.get? b = some o → s'.heap.get? b = some o) → Moved (S :: wr) G s s' → R (.ok (.ret (.ref a'))) s') → codeAny (model prog w) A (.builtin "sum.loop" ⟨[.ref I, .ref S, rawInt 2, rawInt 0], []⟩) R s := by
  have hSw : S ∉ wr := fun h => hSf (W.sub _ h)
  have hsub : ∀ b ∈ wr, b ∈ S :: wr := fun b hb => List.mem_cons_of_mem _ hb
  have old : ∀ b o, h0.get? b = some o → b ∉ S :: wr := fun b o e z => by
    have lt := Heap.lt_size e
    rcases List.mem_cons.mp z with z | z
    · rw [z] at lt
      exact Nat.lt_irrefl _ (Nat.lt_of_lt_of_le lt hS0)
    · exact Nat.lt_irrefl _ (Nat.lt_of_lt_of_le lt (hw b z (fun q => hSw (by rw [← List.mem_singleton.mp q]; exact z))))
  intro k
  induction k with
  | zero =>
    intro i s a its c0 c hk hi hst hkp ha haS hz hS hR
    have hin : i = xs.length := by omega
    subst hin
    refine codeAny_builtin F.entry_sum_loop ?_
    rw [Around.under_plainId F.plain_sum_loop _]
    show wpAny _ A.in1 (seqItems? (.ref S) >>= _) _ _ s
    refine wpAny_bind (wpAny_seqItems hS rfl ?_)
    show wpAny _ A.in1 (tryCatch (pyNext (.ref I)) _ >>= _) _ _ s
    refine wpAny_bind (wpAny_tryCatch (W.done s _ _ hst fun s' hm => ?_))
    refine wpAny_pure (hR s' a c0 ?_ (fun h => absurd h (Nat.lt_irrefl _)) (fun _ => rfl) (fun b o e => (hm.mono hsub).heap b o (old b o e) (hkp b o e)) (hm.mono hsub))
    rw [List.drop_length, List.flatten_nil, List.append_nil]
    exact (hm.mono hsub).heap a _ haS ha
  | succ k ih =>
    intro i s a its c0 c hk hi hst hkp ha haS hz hS hR
    have hlt : i < xs.length := by omega
    refine codeAny_builtin F.entry_sum_loop ?_
    rw [Around.under_plainId F.plain_sum_loop _]
    show wpAny _ A.in1 (seqItems? (.ref S) >>= _) _ _ s
    refine wpAny_bind (wpAny_seqItems hS rfl ?_)
    show wpAny _ A.in1 (tryCatch (pyNext (.ref I)) _ >>= _) _ _ s
    refine wpAny_bind (wpAny_tryCatch (W.item i s _ _ hlt hst fun v s' hP hst' hm => ?_))
    obtain ⟨b, cb, ib, rfl, hib, hb0⟩ := hval i v hP
    have hS' := hm.heap S _ hSw hS
    have hm' := hm.mono hsub
    have ha' := hm'.heap a _ haS ha
    have kp' : ∀ b o, h0.get? b = some o → s'.heap.get? b = some o := fun b o e => hm'.heap b o (old b o e) (hkp b o e)
    have hb' := kp' b _ hb0
    have hdrop : xs.drop i = ib :: xs.drop (i + 1) := by
      rw [List.drop_eq_getElem_cons hlt]
      congr 1
      exact Option.some.inj ((List.getElem?_eq_getElem hlt).symm.trans hib)
    rw [hdrop, List.flatten_cons] at hR hz
    rw [List.length_append] at hz
    show wpAny _ A.in1 ((holding [Value.ref b] (binaryOp .Add (.ref a) (.ref b))).attempt >>= _) _ _ _
    refine wpAny_bind (wpAny_attempt (wpAny_holding (PySem.P.add_list ha' hb' ?_ (by rw [List.size_toArray, List.size_toArray]; omega))))
    have lS := Heap.lt_size hS'
    generalize hho : ({ cls := .type "list", data := .seq (its.toArray ++ ib.toArray) } : Obj) = no
    have eno : no = lstO (its ++ ib) 0 := by
      rw [← hho]
      simp [lstO]
    have hS1 : (s'.heap.push no).get? S = some { cls := .type "list", dict := none, data := .seq #[.ref a] c, slots := #[] } := Heap.get?_push_of_some _ hS'
    show wpAny _ A.in1 (updateSeq S (fun _ => #[.ref s'.heap.objs.size]) >>= _) _ _ _
    refine wpAny_bind (wpAny_updateSeq hS1 rfl ?_)
    have hS₂ := Heap.get?_update_self (Obj.mapSeq fun _ => #[Value.ref s'.heap.objs.size]) hS1 rfl
    refine wpAny_bind (wpAny_letGo ?_)
    have step : ∀ b o, b ≠ S → s'.heap.get? b = some o → (((s'.heap.push no).update S (Obj.mapSeq fun _ => #[Value.ref s'.heap.objs.size])).update S (Obj.mapSeq fun _ => #[Value.ref s'.heap.objs.size])).get? b = some o := fun b o hb e =>
      (Heap.get?_update_other _ _ (fun h : S = b => hb h.symm)).trans ((Heap.get?_update_other _ _ (fun h : S = b => hb h.symm)).trans (Heap.get?_push_of_some _ e))
    have nS : s'.heap.objs.size ≠ S := Nat.ne_of_gt lS
    have ha2 : (((s'.heap.push no).update S (Obj.mapSeq fun _ => #[Value.ref s'.heap.objs.size])).update S (Obj.mapSeq fun _ => #[Value.ref s'.heap.objs.size])).get? s'.heap.objs.size = some (lstO (its ++ ib) 0) :=
      (Heap.get?_update_other _ _ (fun h : S = _ => nS h.symm)).trans ((Heap.get?_update_other _ _ (fun h : S = _ => nS h.symm)).trans (by rw [eno]; exact Heap.get?_push_size _ rfl))
    refine wpAny_bind (wpAny_updateSeq hS₂ rfl (wpAny_pure ⟨plainId_quiet F.plain_sum_loop _, ih (i + 1) _ s'.heap.objs.size (its ++ ib) 0 _ (by omega) hlt (W.frame _ s' _ _ hst' (Nat.le_refl _) fun b hb o e => step b o (fun h => hSf (by rw [← h]; exact hb)) e) (fun b o e => step b o (fun h => old b o e (by rw [h]; exact List.mem_cons_self)) (kp' b o e)) ha2 (fun z => ?_) (by rw [List.length_append]; omega) (Heap.get?_update_self _ hS₂ rfl) fun s'' a'' c'' h1 h2 h4 h3 hm'' => ?_⟩))
    · rcases List.mem_cons.mp z with z | z
      · exact nS z
      · exact absurd (hwI _ _ hst' _ z) (Nat.lt_irrefl _)
    · refine hR s'' a'' c'' (by rw [← List.append_assoc]; exact h1) (fun _ => ?_) (fun e => absurd e (Nat.ne_of_lt hlt)) h3 (Moved.trans W.gtrans (hm'.then_heap (Nat.le_refl _) fun b o hb e => step b o (fun h => hb (by rw [h]; exact List.mem_cons_self)) e) hm'')
      by_cases e : i + 1 < xs.length
      · exact h2 e
      · rw [h4 (by omega)]
        exact Nat.le_trans hS0 (Nat.le_of_lt lS)
end
section
open PySem.Calls
variable {prog : Program} {w : World} {A : Around} {E : Value → Shared → Prop} {s : Shared}
theorem args_sum2 (a b : Value) : argsOk "sum" ⟨[a, b], []⟩ := by unfold argsOk; kernel_rfl
theorem sum_lists {l st : Addr} {vs : List Value} {xs : List (List Value)} {Q : Value → Shared → Prop} {cs : Nat} (hh : A.handled = none) (hl : s.heap.IsList l vs.toArray) (hst : s.heap.get? st = some (lstO [] cs)) (hv : ∀ (i : Nat) (v : Value), vs[i]? = some v → ∃ (b : Addr) (c : Nat) (its : List Value), v = .ref b ∧ xs[i]? = some its ∧ s.heap.get? b = some (lstO its c)) (hn : vs.length = xs.length) (hz : xs.flatten.length ≤ sizeLine)
    (hne : 0 < xs.length) (h : ∀ h' tk a c, (∀ b o, s.heap.get? b = some o → h'.get? b = some o) → s.heap.objs.size ≤ a → h'.get? a = some (lstO xs.flatten c) → Q (.ref a) { s with heap := h', toks := tk }) : wpAny (model prog w) A (call (.builtin "sum") [.ref l, .ref st]) Q E s := by
  refine call_function_tree F.kind_sum F.plain_sum F.entry_sum (args_sum2 _ _) ?_
  unfold Builtin.«sum»
  simp only [List.length_cons, List.length_nil]
  rw [if_neg (by decide)]
  refine wpAny_bind (wpAny_of_eq (show Builtin.Builtins.bindParams "sum" ["start"] 0 ⟨[.ref st], []⟩ = pure [some (.ref st)] from rfl) ?_)
  have hlt : l < s.heap.objs.size := by obtain ⟨_, e, _⟩ := hl; exact Heap.lt_size e
  refine wpAny_bind (wpAny_pyIter_list hl ?_)
  generalize hs2 : ({ s with heap := s.heap.push { cls := .type "list_iterator", data := .fields #[.ref l, .int 0 0] } } : Shared) = s2
  have kp2 : ∀ b o, s.heap.get? b = some o → s2.heap.get? b = some o := fun b o e => by rw [← hs2]; exact Heap.get?_push_of_some _ e
  have it2 : s2.heap.IsListIter s.heap.objs.size l 0 := by rw [← hs2]; exact ⟨_, Heap.get?_push_size _ rfl, rfl, rfl⟩
  have hl2 : s2.heap.IsList l vs.toArray := hl.at fun o e => kp2 _ o e
  have z2 : s.heap.objs.size < s2.heap.objs.size := by
    obtain ⟨_, e, _⟩ := it2
    exact Heap.lt_size e
  have st2 := kp2 _ _ hst
  have ty : s2.TypeIs (.ref st) "list" := ⟨_, st2, rfl⟩
  refine wpAny_bind (wpAny_pure ?_)
  simp only [List.forIn_cons, List.forIn_nil]
  refine wpAny_bind (wpAny_bind (wpAny_bind (wpAny_isInstance (T := "list") (b := false) ty F.sub_list_str ?_)))
  simp only [Bool.false_eq_true, if_false]
  refine wpAny_pure (wpAny_bind (wpAny_bind (wpAny_isInstance (T := "list") (b := false) ty F.sub_list_bytes ?_)))
  simp only [Bool.false_eq_true, if_false]
  refine wpAny_pure (wpAny_bind (wpAny_bind (wpAny_isInstance (T := "list") (b := false) ty F.sub_list_bytearray ?_)))
  simp only [Bool.false_eq_true, if_false]
  refine wpAny_pure (wpAny_pure ?_)
  refine wpAny_bind (wpAny_newObj_type ?_)
  have W := (Walks.list (prog := prog) (w := w) (A := A.in1) hh s.heap.objs.size l (Nat.ne_of_lt hlt) vs.toArray).toS
  have hlen : vs.toArray.size = xs.length := by simpa using hn
  rw [hlen] at W
  refine wpAny_pure ⟨plainId_quiet F.plain_sum_loop _, codeAny_sumLL (xs := xs) W s.heap (fun i v hP => hv i v (by simpa using hP)) s2.heap.objs.size (fun hm => ?_) (Nat.le_of_lt z2) (fun b hb _ => by rw [List.mem_singleton.mp hb]; exact Nat.le_refl _) (fun i s' hs' b hb => by rw [List.mem_singleton.mp hb]; obtain ⟨⟨_, e, _⟩, _⟩ := hs'; exact Heap.lt_size e) xs.length 0 _ st [] cs _ rfl (Nat.zero_le _)
    (W.frame 0 s2 _ _ ⟨it2, hl2⟩ (Nat.le_refl _) fun b _ o e => Heap.get?_push_of_some _ e) (fun b o e => Heap.get?_push_of_some _ (kp2 b o e)) (Heap.get?_push_of_some _ st2) (fun z => ?_) (by simpa using hz) (Heap.get?_push_size _ rfl) fun s' a' c' h1 h2 _ h3 hm => ?_⟩
  · rcases List.mem_cons.mp hm with z | z
    · exact Nat.lt_irrefl _ (z ▸ z2)
    · have e := List.mem_singleton.mp z
      rw [← e] at hlt
      exact Nat.lt_irrefl _ (Nat.lt_trans hlt z2)
  · have l1 := Heap.lt_size hst
    rcases List.mem_cons.mp z with z | z
    · rw [z] at l1
      exact Nat.lt_irrefl _ (Nat.lt_trans l1 z2)
    · rw [List.mem_singleton.mp z] at l1
      exact Nat.lt_irrefl _ l1
  · obtain ⟨h', g', d', tk', os'⟩ := s'
    have e1 : g' = s2.gens := hm.gens
    have e2 : d' = s2.drawn := hm.drawn
    have e3 : os' = s2.os := hm.os
    rw [← hs2] at e1 e2 e3
    subst e1 e2 e3
    exact h h' tk' a' c' h3 (h2 hne) (by simpa using h1)
end
section
variable {X : Cx} {σ : L2.St} {H : Hp} {s : Shared}
theorem sum_rows {pins : List (Addr × Obj)} (I : Inv X pins σ H s) : ∀ (bs : List Addr) (xss : List (List V)), bs.length = xss.length → (∀ (i : Nat) (b : Addr), bs[i]? = some b → ∃ xs, xss[i]? = some xs ∧ H b = some (.lst xs)) →
    ∃ yss : List (List Value), yss.length = xss.length ∧ Vals xss.flatten yss.flatten ∧ ∀ (i : Nat) (b : Addr), bs[i]? = some b → ∃ c y, yss[i]? = some y ∧ s.heap.get? b = some (lstO y c)
  | [], [], _, _ => ⟨[], rfl, .nil, fun i b h => by cases h⟩
  | b :: bs, xs :: xss, hl, h => by
    obtain ⟨yss, h1, h2, h3⟩ := sum_rows I bs xss (Nat.succ.inj hl) fun i b hb => h (i + 1) b hb
    obtain ⟨xs', e, hb⟩ := h 0 b rfl
    cases e
    obtain ⟨_, its, n, r, _, e⟩ := I.lstM hb
    refine ⟨its :: yss, congrArg Nat.succ h1, ?_, fun i b' hb' => ?_⟩
    · rw [List.flatten_cons, List.flatten_cons]
      exact r.append h2
    · cases i with
      | zero =>
        cases hb'
        exact ⟨n, its, rfl, e⟩
      | succ i => exact h3 i b' hb'
/-- sum(l, []), l of lists -/
def rSumL : List V → Hp → VK → Prop := fun vs H Q => ∃ (l st : Addr) (bs : List Addr) (xss : List (List V)), vs = [V.ref l, V.ref st] ∧ H l = some (.lst (bs.map V.ref)) ∧ H st = some (.lst []) ∧ bs.length = xss.length ∧ (∀ (i : Nat) (b : Addr), bs[i]? = some b → ∃ xs, xss[i]? = some xs ∧ H b = some (.lst xs)) ∧
  0 < xss.length ∧ xss.flatten.length ≤ sizeLine ∧ ∀ p, H p = none → Q (.ref p) (upd H p (.lst xss.flatten))
theorem vals_ref : ∀ {bs : List Addr} {us : List Value}, Vals (bs.map V.ref) us → us = bs.map Value.ref
  | [], _, h => by cases h; rfl
  | b :: bs, _, h => by
    cases h with
    | cons a r =>
      cases a
      rw [vals_ref r]
      rfl
theorem vals_two {a b : Addr} {us : List Value} (r : Vals [V.ref a, V.ref b] us) : us = [.ref a, .ref b] := vals_ref (bs := [a, b]) r
theorem cr_sumL (hc : X.calm = true) : CallR X (.builtin "sum") rSumL := by
  intro pins s σ H vs us Q I r h
  obtain ⟨l, st, bs, xss, rfl, hl, hst, hn, hb, hne, hz, q⟩ := h
  rw [vals_two r]
  obtain ⟨_, its, n, r1, _, e1⟩ := I.lstM hl
  obtain ⟨_, its2, n2, r2, _, e2⟩ := I.lstM hst
  cases r2
  rw [vals_ref r1] at e1
  obtain ⟨yss, h1, h2, h3⟩ := sum_rows I bs xss hn hb
  refine sum_lists (vs := bs.map Value.ref) (xs := yss) (I.ok.hd hc) ⟨_, e1, rfl, n, rfl⟩ e2 (fun i v hv => ?_) (by rw [List.length_map, hn, h1]) (by rw [← h2.length]; exact hz) (by rw [h1]; exact hne) fun h' tk a c hk hle hg => ?_
  · rw [List.getElem?_map] at hv
    cases e : bs[i]? with
    | none => rw [e] at hv; cases hv
    | some b =>
      rw [e] at hv
      cases hv
      obtain ⟨c, y, a1, a2⟩ := h3 i b e
      exact ⟨b, c, y, rfl, a1, a2⟩
  · exact ⟨.ref a, upd H a (.lst xss.flatten), I.laid hk hle (show ObjOk X.prog X.w _ _ _ (.lst xss.flatten) from ⟨hz, _, c, h2, hg⟩), rfl, q _ (I.hok.fresh hle)⟩
end
section
variable {M : Md} {N : List Str} {sc : Scope} {fc : Str → Bool} {k : Nat} {X : Cx} {ρ : Rho} {e : Expr} {p p1 pos : Pos} {x1 : Nat}
theorem rps_rows {K : PySem.W.Frag} {H : Hp} : ∀ {t : List (List Int)} {vs : List V}, Rps K H vs (t.map dR) → ∃ bs : List Addr, vs = bs.map V.ref ∧ bs.length = (t.map (List.map V.int)).length ∧ ∀ (i : Nat) (b : Addr), bs[i]? = some b → ∃ xs, (t.map (List.map V.int))[i]? = some xs ∧ H b = some (.lst xs)
  | [], _, h => by
    cases h
    exact ⟨[], rfl, rfl, fun i b h => by cases h⟩
  | r :: t, _, h => by
    cases h with
    | cons h1 h2 =>
      obtain ⟨bs, e1, e2, e3⟩ := rps_rows (t := t) h2
      cases h1 with
      | @lst b us _ hb hu =>
        refine ⟨b :: bs, by rw [e1]; rfl, congrArg Nat.succ e2, fun i b' hb' => ?_⟩
        cases i with
        | zero =>
          cases hb'
          exact ⟨_, rfl, by rw [hb, hu.ints]⟩
        | succ i => exact e3 i b' hb'
theorem e_sumT {t : List (List Int)} (hX : XF M N sc fc k X) (hm : M.mg "sum" = none) (ha : Rd X ρ e (dT t)) (hne : 0 < t.length) (hz : t.flatten.length ≤ 1000) (hs : starEach (e :: [.List [] p1]) X.env = (false, eval e X.env) :: starEach [.List [] p1] X.env := by rfl)
    (hs2 : starEach (.List [] p1 :: []) X.env = (false, eval (.List [] p1) X.env) :: starEach [] X.env := by rfl) (hpl : (backTo pos (starEach [.List [] p1] X.env)).any (·.1) = false := by rfl) (hg : glB sc "sum" = true := by decide +kernel) : Ev X ρ (.Call (.Name "sum" p) [e, .List [] p1] [] pos) (tR t.flatten) := by
  obtain ⟨h1, h2⟩ := hX.gl hg
  have el : Ev X ρ (.List [] p1) (.lst []) := Ev.list .nil
  have hA : RdA X ρ [e, .List [] p1] [dT t, .lst []] := .cons ha (.one el.rd hs2) hs
  have key : Ev X ρ (.Call (.Name "sum" p) [e, .List [] p1] [] pos) (.lst ((t.flatten.map D.int).map T.sh)) := fun σ H F G Q S k => best.of (pe_callB (cr_sumL hX.calm) h1 (by rw [hX.m]; exact hm) PyProof.Rows.boot_sum pa_best (by decide) h2 hs hpl) (hA σ H F G _ S fun vs H' sm r => by
    obtain ⟨v, w, rfl, r1, r2⟩ := r.two
    cases r1 with
    | @lst l us _ hl hu =>
      cases r2 with
      | @lst st us2 _ hst hu2 =>
        cases hu2
        obtain ⟨bs, rfl, e2, e3⟩ := rps_rows hu
        have ef : (t.map (List.map V.int)).flatten = t.flatten.map V.int := by rw [List.map_flatten]
        refine ⟨l, st, bs, t.map (List.map V.int), rfl, hl, hst, e2, e3, by rw [List.length_map]; exact hne, by rw [ef, List.length_map]; exact Nat.le_of_lt (small1000 hz), fun p hp => ?_⟩
        rw [ef]
        exact k _ _ _ (new_sh S sm (rps_ints t.flatten) hp))
  refine key.cast ?_
  rw [List.map_map]
  rfl
end
/-! ### xs[::k] -/
def stepI (n : Nat) (k : Int) : List Nat := sliceRange (sliceBounds none none (some k) n).1 (sliceBounds none none (some k) n).2.1 (sliceBounds none none (some k) n).2.2
def stepV {α : Type} (xs : List α) (k : Int) : List α := (stepI xs.length k).filterMap (xs[·]?)
theorem stepV_map {α β : Type} (f : α → β) (xs : List α) (k : Int) : stepV (xs.map f) k = (stepV xs k).map f := by
  unfold stepV
  rw [List.length_map, List.map_filterMap]
  congr 1
  funext i
  rw [List.getElem?_map]
theorem stepV_mem {α : Type} {xs : List α} {k : Int} {x : α} (h : x ∈ stepV xs k) : x ∈ xs := by
  obtain ⟨i, _, hi⟩ := List.mem_filterMap.mp h
  exact List.mem_of_getElem? hi
theorem stepV_len {α : Type} (xs : List α) (k : Int) : (stepV xs k).length ≤ xs.length := by
  have e : (stepV (xs.map fun _ => Value.none) k).length = (slicePick (xs.map fun _ => Value.none).toArray none none (some k)).size := by
    unfold stepV stepI slicePick
    rw [List.size_toArray, List.size_toArray]
    congr 2
    funext i
    simp
  rw [stepV_map, List.length_map] at e
  have := slicePick_size_le (xs.map fun _ => Value.none).toArray none none (some k)
  have e2 : (xs.map fun _ => Value.none).toArray.size = xs.length := by rw [List.size_toArray, List.length_map]
  omega
theorem vals_pick {xs : List V} {its : List Value} (r : Vals xs its) : ∀ l : List Nat, Vals (l.filterMap (xs[·]?)) (l.filterMap (its.toArray[·]?))
  | [] => .nil
  | i :: l => by
    have ih := vals_pick r l
    rw [List.filterMap_cons, List.filterMap_cons]
    have hl := r.length
    by_cases h : i < xs.length
    · have e1 : xs[i]? = some xs[i] := List.getElem?_eq_getElem h
      obtain ⟨u, e3, ru⟩ := r.get e1
      have e2 : its.toArray[i]? = some u := by
        rw [List.getElem?_toArray]
        exact e3
      rw [e1, e2]
      exact .cons ru ih
    · have e1 : xs[i]? = none := List.getElem?_eq_none (by omega)
      have e2 : its.toArray[i]? = none := by
        rw [List.getElem?_toArray]
        exact List.getElem?_eq_none (by omega)
      rw [e1, e2]
      exact ih
theorem rps_pick {K : PySem.W.Frag} {H : Hp} {vs : List V} {ds : List D} (r : Rps K H vs ds) : ∀ l : List Nat, Rps K H (l.filterMap (vs[·]?)) (l.filterMap (ds[·]?))
  | [] => .nil
  | i :: l => by
    have ih := rps_pick r l
    rw [List.filterMap_cons, List.filterMap_cons]
    have hl := r.len
    by_cases h : i < vs.length
    · have e1 : vs[i]? = some vs[i] := List.getElem?_eq_getElem h
      have e2 : ds[i]? = some (ds[i]'(by omega)) := List.getElem?_eq_getElem (by omega)
      obtain ⟨v, e1, rv⟩ := r.get e2
      rw [e1, e2]
      exact .cons rv ih
    · have e1 : vs[i]? = none := List.getElem?_eq_none (by omega)
      have e2 : ds[i]? = none := List.getElem?_eq_none (by omega)
      rw [e1, e2]
      exact ih
section
variable {M : Md} {N : List Str} {sc : Scope} {fc : Str → Bool} {X : Cx} {ρ : Rho} {a es : Expr} {ds : List D} {pos p3 : Pos}
def tStepL (K : PySem.W.Frag) (te ts : TE) : TE := fun σ H Q => te σ H fun x H1 => tPart ts σ H1 fun o H2 => ∃ a xs k, x = .ref a ∧ o = some k ∧ k ≠ 0 ∧ SqL K H2 a xs ∧ ∀ p, H2 p = none → Q (.ref p) (upd H2 p (.lst (stepV xs k)))
theorem pe_stepL {e es : Expr} {te ts : TE} {p3 pos : Pos} (he : PE X e te) (hs : PE X es ts) : PE X (.Subscript e (.Slice none none (some es) p3) pos) (tStepL X.K te ts) := by
  refine ⟨fun pins s σ H Q I h => ?_⟩
  refine Subscript_ (thn (he.run pins s σ H _ I h) fun v s1 ⟨x, H1, I1, r1, q1⟩ => ?_)
  have hst : PO X (some es) (tPart ts) := po_some hs
  refine wpAny_Slice (thn (po_none.run pins s1 σ H1 (fun o H2 => o = none ∧ H2 = H1) I1 ⟨rfl, rfl⟩) fun vl s2 ⟨l, H2, I2, pl, el, e2⟩ => ?_)
  subst el e2
  refine thn (po_none.run pins s2 σ H2 (fun o H3 => o = none ∧ H3 = H2) I2 ⟨rfl, rfl⟩) fun vu s3 ⟨u, H3, I3, pu, eu, e3⟩ => ?_
  subst eu e3
  refine thn (hst.run pins s3 σ H3 _ I3 q1) fun vs s4 ⟨o, H4, I4, ps, a, xs, k, ex, eo, hk, hx, q⟩ => ?_
  subst ex eo
  cases r1
  have I5 : Inv X pins σ H4 { s4 with heap := s4.heap.push { cls := .type "slice", data := .fields #[vl, vu, vs] } } := I4.kept (t' := s4.toks) fun b ob q => Heap.get?_push_of_some _ q
  obtain ⟨its, r, ht, hz⟩ := I5.list hx
  have hlen := r.length
  show wpAny (model X.prog X.w) X.A (subscriptTail e (.Slice none none (some es) p3) (.ref a) (.ref s4.heap.objs.size)) (EP X pins σ Q) X.xe { s4 with heap := s4.heap.push { cls := .type "slice", data := .fields #[vl, vu, vs] } }
  refine tail_any (ops := [.ref a, .ref s4.heap.objs.size]) ht.isList.typeIs (PySem.slot_list_getitem.lookup) ?_ (by with_unfolding_all rfl)
  refine wpAny_getItem_list_slice ht.isList (Heap.IsSliceOf.new _ vl vu vs) pl pu ps (fun z => hk (Option.some.inj z)) ?_ (by rw [List.size_toArray]; omega)
  have e : slicePick its.toArray none none (some k) = ((stepI xs.length k).filterMap (its.toArray[·]?)).toArray := by
    unfold slicePick stepI
    rw [hlen, List.size_toArray]
  rw [e]
  refine ⟨.ref _, _, I5.laid (t' := s4.toks) (o := .lst (stepV xs k)) (fun b ob q => Heap.get?_push_of_some _ q) (Nat.le_refl _) ?_, rfl, q _ (I5.hok.fresh (Nat.le_refl _))⟩
  refine ⟨Nat.le_trans (stepV_len xs k) hz, _, 0, vals_pick r (stepI xs.length k), Heap.get?_push_size _ rfl⟩
theorem Ev.step {k : Int} (h : Ls X ρ a ds) (hs : Rd X ρ es (.int k)) (hk : k ≠ 0) : Ev X ρ (.Subscript a (.Slice none none (some es) p3) pos) (.lst ((stepV ds k).map T.sh)) := fun σ H F G Q S kk =>
  best.of (pe_stepL pe_best pe_best) (h σ H F G _ S fun p vs H1 s1 e1 r1 => hs σ H1 F G _ (S.sm s1) fun q H2 s2 r2 => ⟨k, r2.intE, p, vs, k, rfl, rfl, hk, SqL.of (s2 _ _ e1), fun o ho => kk _ _ _ (new_sh S (s1.trans s2) (by
    unfold stepV
    rw [r1.len]
    exact rps_pick (r1.sm (del_sm s2)) _) ho)⟩)
end
/-! ### a, b, c = -/
section
variable {M : Md} {N : List Str} {sc : Scope} {fc : Str → Bool} {k : Nat} {X : Cx} {ρ ρ1 ρ2 ρ3 : Rho} {t1 t2 t3 : Expr} {d1 d2 d3 : D} {pos : Pos}
theorem Gs.tup3 {kt : Nat} (hX : XF M N sc fc k X) (h1 : Gs X ρ t1 d1 ρ1) (h2 : Gs X ρ1 t2 d2 ρ2) (h3 : Gs X ρ2 t3 d3 ρ3) (e1 : (assignEach [t1, t2, t3] X.env).map (·.2) = assign t1 X.env :: (assignEach [t2, t3] X.env).map (·.2) := by rfl) (e2 : (assignEach [t2, t3] X.env).map (·.2) = assign t2 X.env :: (assignEach [t3] X.env).map (·.2) := by rfl) (e3 : (assignEach [t3] X.env).map (·.2) = assign t3 X.env :: (assignEach [] X.env).map (·.2) := by rfl)
    (hn : (assignEach [t1, t2, t3] X.env).length = 3 := by rfl) (hst : (assignEach [t1, t2, t3] X.env).findIdx? (·.1) = none := by rfl) : Gs X ρ (.Tuple [t1, t2, t3] kt pos) (.tup [d1, d2, d3]) ρ3 := by
  obtain ⟨g1, pg1, q1⟩ := h1
  obtain ⟨g2, pg2, q2⟩ := h2
  obtain ⟨g3, pg3, q3⟩ := h3
  refine ⟨_, pg_tup hX.calm (pgs_cons pg1 (pgs_cons pg2 (pgs_cons pg3 pgs_nil e3) e2) e1) hn hst, fun σ H F G v Q S r Qh => ?_⟩
  cases r with
  | tup hs rs =>
    cases rs with
    | cons r1 rs =>
      cases rs with
      | cons r2 rs =>
        cases rs with
        | cons r3 rs =>
          cases rs
          refine ⟨_, _, rfl, SqT.sm del_le hs, rfl, _, _, rfl, q1 σ H F G _ _ S r1 fun σ1 H1 F1 S1 st1 => ⟨_, _, rfl, q2 σ1 H1 F1 G _ _ S1 (r2.sm st1.sh) fun σ2 H2 F2 S2 st2 => ⟨_, _, rfl, q3 σ2 H2 F2 G _ _ S2 ((r3.sm st1.sh).sm st2.sh) fun σ3 H3 F3 S3 st3 => ⟨rfl, Qh σ3 H3 F3 S3 ((st1.trans st2).trans st3)⟩⟩⟩⟩
end
theorem sw_cell {elt : Expr} {gens : List Comprehension} {scope : Scope} {pos p : Pos} {x : Str} {l : Nat} {env : Env} (h : env.scope.names.lookup x = some .cell) : swapsWith (.ListComp elt gens scope pos) (some (.Name x p)) l env = pure false := by
  unfold swapsWith
  show (pure (env.blockKind == .function && env.kindOf x == some .local && p.line == pos.line && !(scope.names.any fun (n, k) => n == x && (k == .local || k == .cell))) : Sem Bool) = pure false
  have e : env.kindOf x = env.scope.names.lookup x := rfl
  rw [e, h]
  have : ((some NameKind.cell : Option NameKind) == some NameKind.local) = false := rfl
  rw [this, Bool.and_false, Bool.false_and, Bool.false_and]
/-! ### what is new, behind a heap -/
section
variable {K : PySem.W.Frag} {R H H' : Hp}
theorem wit_int {v : V} {H0 : Hp} {i : Int} (h : Rp K H v (.wit H0 i)) : Rp K H v (.int i) := by
  cases h
  exact .int _
theorem wit_dom {v : V} {H0 : Hp} {i : Int} (h : Rp K H v (.wit H0 i)) : Dom H0 H := by
  cases h
  assumption
theorem frT_rp {v : V} {H0 : Hp} {t : List (List Int)} (h : Rp K H v (.frT H0 t)) : Rp K H v (dT t) := by
  cases h with
  | frT a b => exact tab_rp (b.sm hid_le)
theorem frTs_rps {H0 : Hp} : ∀ {vs : List V} {ts : List (List (List Int))}, Rps K H vs (ts.map (D.frT H0)) → Rps K H vs (ts.map dT)
  | _, [], .nil => .nil
  | _, _ :: _, .cons h k => .cons (frT_rp h) (frTs_rps k)
theorem frTs_rp {v : V} {H0 : Hp} {ts : List (List (List Int))} (h : Rp K H v (.lst (ts.map (D.frT H0)))) : Rp K H v (dTs ts) := by
  cases h with
  | lst a b => exact .lst a (frTs_rps b)
/-- own rows as they lie -/
theorem RTs.ints : ∀ {r : List Int} {vs : List V} {F : List Addr}, RTs K R H vs (r.map tI) F → vs = r.map V.int ∧ F = []
  | [], _, _, .nil => ⟨rfl, rfl⟩
  | _ :: _, _, _, .cons (.sh h) k => by
    cases h
    obtain ⟨e1, e2⟩ := RTs.ints k
    subst e1 e2
    exact ⟨rfl, rfl⟩
theorem only_le {F : List Addr} : Same (only F H) H := fun b o q => (only_in q).2
theorem only_more {F G : List Addr} (h : ∀ a ∈ F, a ∈ G) : Same (only F H) (only G H) := fun b o q => by
  obtain ⟨h1, h2⟩ := only_in q
  unfold only
  rw [if_pos (h b h1)]
  exact h2
theorem only_mk {F : List Addr} {b : Addr} {o : HO} (h : b ∈ F) (q : H b = some o) : only F H b = some o := by
  unfold only
  rw [if_pos h]
  exact q
theorem RTs.rowsAt : ∀ {rs : List (List Int)} {vs : List V} {F : List Addr}, RTs K R H vs (rs.map tR) F → RowsAt (only F H) vs rs
  | [], _, _, .nil => .nil
  | _ :: _, _, _, .cons (.lst h i) k => by
    obtain ⟨e1, e2⟩ := i.ints
    subst e1 e2
    exact .cons ⟨_, rfl, only_mk (List.mem_append_left _ (List.mem_singleton.mpr rfl)) h⟩ ((RTs.rowsAt k).sm (only_more fun a ha => List.mem_append_right _ ha))
theorem RT.tabAt {t : List (List Int)} {v : V} {F : List Addr} (h : RT K R H v (tT t) F) : TabAt (only F H) v t := by
  cases h with
  | lst h i => exact ⟨_, _, rfl, only_mk (List.mem_cons_self ..) h, (i.rowsAt).sm (only_more fun a ha => List.mem_cons_of_mem _ ha)⟩
/-- the nodes of tables -/
theorem RowsAt.nodes : ∀ {vs : List V} {rs : List (List Int)}, RowsAt H vs rs → ∃ L : List Addr, RowsAt (only L H) vs rs ∧ ∀ b ∈ L, ∃ o, H b = some o
  | _, _, .nil => ⟨[], .nil, fun b z => nomatch z⟩
  | _, _, .cons ⟨a, e, h⟩ k => by
    obtain ⟨L, h1, h2⟩ := k.nodes
    exact ⟨a :: L, .cons ⟨a, e, only_mk (List.mem_cons_self ..) h⟩ (h1.sm (only_more fun a ha => List.mem_cons_of_mem _ ha)), fun b hb => (List.mem_cons.mp hb).elim (fun e => e ▸ ⟨_, h⟩) (h2 b)⟩
theorem TabAt.nodes {v : V} {t : List (List Int)} (h : TabAt H v t) : ∃ L : List Addr, TabAt (only L H) v t ∧ ∀ b ∈ L, ∃ o, H b = some o := by
  obtain ⟨a, vs, e, h1, h2⟩ := h
  obtain ⟨L, q1, q2⟩ := h2.nodes
  exact ⟨a :: L, ⟨a, vs, e, only_mk (List.mem_cons_self ..) h1, q1.sm (only_more fun a ha => List.mem_cons_of_mem _ ha)⟩, fun b hb => (List.mem_cons.mp hb).elim (fun e => e ▸ ⟨_, h1⟩) (q2 b)⟩
theorem TabsAt.nodes : ∀ {vs : List V} {ts : List (List (List Int))}, TabsAt H vs ts → ∃ L : List Addr, TabsAt (only L H) vs ts ∧ ∀ b ∈ L, ∃ o, H b = some o
  | _, _, .nil => ⟨[], .nil, fun b z => nomatch z⟩
  | _, _, .cons h k => by
    obtain ⟨L, h1, h2⟩ := h.nodes
    obtain ⟨L', h3, h4⟩ := k.nodes
    exact ⟨L ++ L', .cons (h1.sm (only_more fun a ha => List.mem_append_left _ ha)) (h3.sm (only_more fun a ha => List.mem_append_right _ ha)), fun b hb => (List.mem_append.mp hb).elim (h2 b) (h4 b)⟩
/-- each once -/
def nub : List Addr → List Addr
  | [] => []
  | a :: l => if a ∈ nub l then nub l else a :: nub l
theorem nub_mem : ∀ {l : List Addr} {a : Addr}, a ∈ nub l ↔ a ∈ l
  | [], a => Iff.rfl
  | b :: l, a => by
    unfold nub
    split
    · rename_i h
      rw [nub_mem, List.mem_cons]
      exact ⟨.inr, fun z => z.elim (fun e => e ▸ nub_mem.mp h) id⟩
    · rw [List.mem_cons, List.mem_cons, nub_mem]
theorem nub_nd : ∀ l : List Addr, (nub l).Nodup
  | [] => List.nodup_nil
  | b :: l => by
    unfold nub
    split
    · exact nub_nd l
    · rename_i h
      exact List.nodup_cons.mpr ⟨h, nub_nd l⟩
theorem RTs.frs {H0 : Hp} : ∀ {ts : List (List (List Int))} {vs : List V} {F : List Addr}, RTs K R H vs (ts.map fun t => .sh (.frT H0 t)) F → TabsAt (hid H0 R) vs ts
  | [], _, _, .nil => .nil
  | _ :: _, _, _, .cons (.sh h) k => by
    cases h with
    | frT _ b => exact .cons b (RTs.frs k)
end
section
variable {M : Md} {N : List Str} {sc : Scope} {fc : Str → Bool} {k : Nat} {X : Cx} {ρ : Rho} {e a b c o : Expr} {es : List Expr} {t u : T} {d : D} {ds : List D} {pos apos p p1 p2 p3 pt : Pos} {x y : Str} {K : K3} {i : Nat} {H0 : Hp} {rest : List Stmt}
theorem Rd.unw {n : Int} (h : Rd X ρ e (.wit H0 n)) : Rd X ρ e (.int n) := fun σ H F G Q S kk => h σ H F G Q S fun v H' s r => kk v H' s (wit_int r)
theorem Ev.unw {n : Int} (h : Ev X ρ e (.sh (.wit H0 n))) : Ev X ρ e (.sh (.int n)) := h.rd.unw.evI
theorem Rd.unf {t : List (List Int)} (h : Rd X ρ e (.frT H0 t)) : Rd X ρ e (dT t) := fun σ H F G Q S kk => h σ H F G Q S fun v H' s r => kk v H' s (frT_rp r)
theorem Rd.unfs {ts : List (List (List Int))} (h : Rd X ρ e (.lst (ts.map (D.frT H0)))) : Rd X ρ e (dTs ts) := fun σ H F G Q S kk => h σ H F G Q S fun v H' s r => kk v H' s (frTs_rp r)
theorem Ev.unf {t : List (List Int)} (h : Ev X ρ e (.sh (.frT H0 t))) : Ev X ρ e (.sh (dT t)) := fun σ H F G Q S kk => h σ H F G Q S fun v H' E r => kk v H' E ⟨r.sm, r.fr, r.nd, by
  have := r.rt
  cases this with
  | sh z => exact .sh (frT_rp z)⟩
theorem Ev.unfs {ts : List (List (List Int))} (h : Ev X ρ e (.sh (.lst (ts.map (D.frT H0))))) : Ev X ρ e (.sh (dTs ts)) := fun σ H F G Q S kk => h σ H F G Q S fun v H' E r => kk v H' E ⟨r.sm, r.fr, r.nd, by
  have := r.rt
  cases this with
  | sh z => exact .sh (frTs_rp z)⟩
/-- behind no heap all is new -/
theorem Ev.wit0 {n : Int} (h : Ev X ρ e (.sh (.int n))) : Ev X ρ e (.sh (.wit (fun _ => none) n)) := fun σ H F G Q S kk => h σ H F G Q S fun v H' E r => kk v H' E ⟨r.sm, r.fr, r.nd, by
  have := r.rt
  cases this with
  | sh z =>
    cases z
    exact .sh (.wit fun b o q => nomatch q)⟩
/-- an own table, shared as a new one -/
theorem Ev.fzF {t : List (List Int)} {n : Int} (w : Nat) (h : Ev X ρ e (tT t)) (hw : ρ[w]? = some (some (.sh (.wit H0 n))) := by rfl) : Ev X ρ e (.sh (.frT H0 t)) := fun σ H F G Q S kk => h σ H F G Q S fun v H' E r => by
  obtain ⟨u, F1, F2, F3, e1, ru, e2, _⟩ := S.ro.get hw
  have dm : Dom H0 (del (F ++ G) H) := by
    cases ru with
    | sh z => exact wit_dom z
  have ap : ∀ b ∈ E, b ∉ F ++ G := apart S.fs r.fr
  refine kk v H' [] ⟨r.sm, (fun a z => nomatch z), List.nodup_nil, .sh (.frT (dm.sm (del_sm r.sm)) (r.rt.tabAt.sm fun b o q => ?_))⟩
  obtain ⟨q1, q2⟩ := only_in q
  unfold hid
  have n0 : H0 b = none := by
    cases z : H0 b with
    | none => rfl
    | some o' =>
      obtain ⟨o2, z2⟩ := dm b o' z
      have := (del_some z2).2
      rw [r.fr b q1] at this
      cases this
  rw [n0, if_neg (fun z => nomatch z)]
  exact (del_out (ap b q1)).trans q2
/-- sorted(e), e a list of new tables -/
theorem e_sortF {ts : List (List (List Int))} (hX : XF M N sc fc k X) (hm : M.mg "sorted" = none) (ha : Ls X ρ e (ts.map (D.frT H0))) (hz : ts.length ≤ 1000) (hs : starEach (e :: []) X.env = (false, eval e X.env) :: starEach [] X.env := by rfl) (hg : glB sc "sorted" = true := by decide +kernel) :
    Ev X ρ (.Call (.Name "sorted" p) [e] [] pos) (.lst ((sortT ts).map fun t => .sh (.frT H0 t))) := by
  have py_e : ∀ t : List (List Int), py (.frT H0 t) = py (dT t) := fun t => by
    show PyData.list (t.map fun r => .list (r.map PyData.int)) = PyData.list (pys (t.map dR))
    congr 1
    rw [pys_map]
    refine List.map_congr_left fun r _ => ?_
    show PyData.list (r.map PyData.int) = PyData.list (pys (r.map D.int))
    congr 1
    rw [pys_map]
    rfl
  have okf : ∀ t : List (List Int), Ok 60 (.frT H0 t) := fun t => ⟨rfl, by rw [py_e]; exact ((ok_dT t).mono (by decide)).2⟩
  have := e_sorted (p := p) (pos := pos) hX hm ha (fun b hb => by
    obtain ⟨t, _, rfl⟩ := List.mem_map.mp hb
    exact okf t) (fun d hd d' hd' => by
    obtain ⟨b, hb, rfl⟩ := List.mem_map.mp hd
    obtain ⟨t, _, rfl⟩ := List.mem_map.mp hb
    obtain ⟨b, hb, rfl⟩ := List.mem_map.mp hd'
    obtain ⟨t', _, rfl⟩ := List.mem_map.mp hb
    rw [py_e, py_e]
    exact alike_dT t t') (.inr fun d hd => by
    obtain ⟨b, hb, rfl⟩ := List.mem_map.mp hd
    obtain ⟨t, _, rfl⟩ := List.mem_map.mp hb
    exact ⟨(fun z => nomatch z), fun xs z => nomatch z⟩) (by rw [List.length_map]; exact Nat.le_of_lt (small1000 hz)) hs hg
  refine this.cast ?_
  congr 1
  have e2 : (ts.map (D.frT H0)).mergeSort (PySem.W.dataLe false py) = (sortT ts).map (D.frT H0) := by
    unfold sortT
    rw [List.map_mergeSort (f := D.frT H0) (s := PySem.W.dataLe false py) fun a _ b _ => ?_]
    show PySem.W.dataLe false py (dT a) (dT b) = PySem.W.dataLe false py (D.frT H0 a) (D.frT H0 b)
    simp only [PySem.W.dataLe, PySem.W.sortLe, py_e]
  rw [e2, List.map_map]
  rfl
/-- a call that tells new tables: they are one's own -/
theorem Ev.callF {j : Nat} {g : List D → T → Prop} {n : Int} {us : List (List (List Int))} (hX : XF M N sc fc k X) (hF : DefOk M j x g) (ha : RdA X ρ (e :: es) (.int n :: ds)) (q : ∀ H0, g (.wit H0 n :: ds) (.lst (us.map fun t => .sh (.frT H0 t)))) (hj : j ≤ k := by decide) (hg : glB sc x = true := by decide +kernel)
    (he : starEach (e :: es) X.env = (false, eval e X.env) :: starEach es X.env := by rfl) (hpl : (backTo pos (starEach es X.env)).any (·.1) = false := by rfl) : Ev X ρ (.Call (.Name x p) (e :: es) [] pos) (.regT us) := fun σ H F G Q S kk =>
  best.of (hF.pe hX hj hg he hpl) (ha σ H F G _ S fun vs H1 sm r => by
    show sp3 X.K g vs H1 Q E0
    refine ⟨.wit H1 n :: ds, _, [], ?_, (fun a ha => nomatch ha), List.nodup_nil, q H1, fun v H' E2 z => ?_⟩
    · rw [del_nil]
      cases r with
      | cons h hs =>
        cases h
        exact .cons (.wit fun b o q => ⟨o, q⟩) hs
    · have rt := z.rt
      cases rt with
      | @lst a vs _ F2 h1 h2 =>
        obtain ⟨L, t1, t2⟩ := (RTs.frs h2).nodes
        have le : Same (hid H1 (del (a :: F2 ++ []) H')) H' := fun b o q => del_le _ _ (hid_le _ _ q)
        have fr : ∀ b ∈ nub (a :: L), H1 b = none := fun b hb => by
          rcases List.mem_cons.mp (nub_mem.mp hb) with e | e
          · rw [e]
            exact z.fr a (List.mem_cons_self ..)
          · obtain ⟨o, q⟩ := t2 b e
            exact (hid_no q).1
        refine kk _ H' (nub (a :: L)) ⟨sm.trans z.sm, fun b hb => sm.free (fr b hb), nub_nd _, .regT (only_mk (nub_mem.mpr (List.mem_cons_self ..)) h1) (t1.sm fun b o q => ?_) fun b hb => ?_⟩
        · obtain ⟨q1, q2⟩ := only_in q
          exact only_mk (nub_mem.mpr (List.mem_cons_of_mem _ q1)) (le _ _ q2)
        · rcases List.mem_cons.mp (nub_mem.mp hb) with e | e
          · exact ⟨_, e ▸ h1⟩
          · obtain ⟨o, q⟩ := t2 b e
            exact ⟨o, le _ _ q⟩)
theorem rows_opq {H : Hp} : ∀ {vs : List V} {rs : List (List Int)}, RowsAt H vs rs → ∃ ds : List D, ds.length = rs.length ∧ ∀ (KF : PySem.W.Frag) (H : Hp), Rps KF H vs ds
  | _, _, .nil => ⟨[], rfl, fun _ _ => .nil⟩
  | _, _, .cons ⟨a, e, h⟩ k => by
    obtain ⟨ds, l, q⟩ := rows_opq k
    exact ⟨.at a :: ds, by rw [List.length_cons, List.length_cons, l], fun KF H => e ▸ .cons (.at a) (q KF H)⟩
theorem tabs_opq {H : Hp} : ∀ {vs : List V} {rs : List (List (List Int))}, TabsAt H vs rs → ∃ ds : List D, ds.length = rs.length ∧ ∀ (KF : PySem.W.Frag) (H : Hp), Rps KF H vs ds
  | _, _, .nil => ⟨[], rfl, fun _ _ => .nil⟩
  | _, _, .cons ⟨a, _, e, h, _⟩ k => by
    obtain ⟨ds, l, q⟩ := tabs_opq k
    exact ⟨.at a :: ds, by rw [List.length_cons, List.length_cons, l], fun KF H => e ▸ .cons (.at a) (q KF H)⟩
theorem rts_opq {KF : PySem.W.Frag} {R H : Hp} : ∀ {vs : List V} {ds : List D}, Rps KF R vs ds → RTs KF R H vs (ds.map T.sh) []
  | _, _, .nil => .nil
  | _, _, .cons h k => .cons (F := []) (G := []) (.sh h) (rts_opq k)
/-- new tables: the first one's first row, and the lists about it, are one's own; of the others nothing is known from here on -/
theorem Ss.unreg (i : Nat) {r : List Int} {rs : List (List Int)} {ts : List (List (List Int))} (h : ∀ es es' : List D, es.length = rs.length → es'.length = ts.length → Ss X (ρ.set i (some (.lst (.lst (tR r :: es.map T.sh) :: es'.map T.sh)))) rest K) (hr : ρ[i]? = some (some (.regT ((r :: rs) :: ts))) := by rfl) : Ss X ρ rest K := fun σ H F G D S w => by
  obtain ⟨v, F1, F2, F3, e1, rt, e2, f⟩ := S.ro.get hr
  cases rt with
  | @regT a0 vs _ _ h0 ht hf =>
    cases ht with
    | @cons v1 vs' _ _ t1 tt =>
      obtain ⟨a1, ws, ev1, h1, hw⟩ := t1
      cases hw with
      | @cons v2 ws' _ _ w1 ww =>
        obtain ⟨a2, ev2, h2⟩ := w1
        subst ev1 ev2
        obtain ⟨m0, q0⟩ := only_in h0
        obtain ⟨m1, q1⟩ := only_in h1
        obtain ⟨m2, q2⟩ := only_in h2
        obtain ⟨es, le, oe⟩ := rows_opq ww
        obtain ⟨es', le', oe'⟩ := tabs_opq tt
        have n12 : a1 ≠ a2 := fun z => by
          rw [z, q2] at q1
          cases r with
          | nil => cases q1
          | cons x r => cases q1
        have n02 : a0 ≠ a2 := fun z => by
          rw [z, q2] at q0
          cases r with
          | nil => cases q0
          | cons x r => cases q0
        have n01 : a0 ≠ a1 := fun z => by
          rw [z, q1] at q0
          have e := Option.some.inj q0
          injection e with e
          injection e with e3 e4
          injection e3 with e3
          exact n12 e3.symm
        have nd := S.nd
        rw [e2] at nd
        simp only [List.nodup_append, List.mem_append] at nd
        obtain ⟨⟨d1, ⟨d2, d3, d4⟩, d5⟩, d6, d7⟩ := nd
        have sub2 : ∀ b ∈ [a0, a1, a2], b ∈ F2 := fun b hb => by
          simp only [List.mem_cons, List.not_mem_nil, or_false] at hb
          rcases hb with e | e | e <;> rw [e] <;> assumption
        have sub : ∀ b ∈ (F1 ++ ([a0, a1, a2] ++ F3)) ++ G, b ∈ F ++ G := fun b hb => by
          rw [e2]
          simp only [List.mem_append] at hb ⊢
          rcases hb with (z | z | z) | z
          · exact .inl (.inl z)
          · exact .inl (.inr (.inl (sub2 b z)))
          · exact .inl (.inr (.inr z))
          · exact .inr z
        have st : Same (del (F ++ G) H) (del ((F1 ++ ([a0, a1, a2] ++ F3)) ++ G) H) := del_sub sub
        have hs : σ.set i (some (.ref a0)) = σ := by
          obtain ⟨l, e⟩ := List.getElem?_eq_some_iff.mp e1
          rw [← e, List.set_getElem_self]
        have ro := f (.ref a0) (del ((F1 ++ ([a0, a1, a2] ++ F3)) ++ G) H) H (.lst (.lst (tR r :: es.map T.sh) :: es'.map T.sh)) [a0, a1, a2] st (fun b _ o q => q)
          (.lst q0 (.cons (F := [a1, a2]) (G := []) (.lst q1 (.cons (F := [a2]) (G := []) (.lst q2 (by
            have : ∀ r : List Int, RTs X.K (del ((F1 ++ ([a0, a1, a2] ++ F3)) ++ G) H) H (r.map V.int) (r.map tI) [] := fun r => by
              induction r with
              | nil => exact .nil
              | cons x r ih => exact .cons (F := []) (G := []) (.sh (.int x)) ih
            exact this r)) (rts_opq (oe _ _)))) (rts_opq (oe' _ _))))
        rw [hs] at ro
        have S' : S3 X.K G σ H (ρ.set i (some (.lst (.lst (tR r :: es.map T.sh) :: es'.map T.sh)))) (F1 ++ ([a0, a1, a2] ++ F3)) := ⟨ro, by
          simp only [List.nodup_append, List.mem_append]
          refine ⟨⟨d1, ⟨List.nodup_cons.mpr ⟨fun z => ?_, List.nodup_cons.mpr ⟨fun z => n12 (List.mem_singleton.mp z), List.nodup_cons.mpr ⟨(fun z => nomatch z), List.nodup_nil⟩⟩⟩, d3, fun x hx y hy => d4 x (sub2 x hx) y hy⟩, fun x hx y hy => ?_⟩, d6, fun x hx y hy => ?_⟩
          · simp only [List.mem_cons, List.not_mem_nil, or_false] at z
            rcases z with z | z
            · exact n01 z
            · exact n02 z
          · rcases hy with z | z
            · exact d5 x hx y (.inl (sub2 y z))
            · exact d5 x hx y (.inr z)
          · rcases hx with z | z | z
            · exact d7 x (.inl z) y hy
            · exact d7 x (.inr (.inl (sub2 x z))) y hy
            · exact d7 x (.inr (.inr z)) y hy, S.gs⟩
        exact h es es' le le' σ H _ G D S' (w.step ⟨st, fun b hb o q => q⟩)
end
section
variable {X : Cx} {ρ : Rho}
theorem fzE {e : Expr} {t : T} {d : D} (h : Ev X ρ e t) (q : t.er = d) : Ev X ρ e (.sh d) := h.fz' q
theorem castE {e : Expr} {t t' : T} (h : Ev X ρ e t) (q : t = t') : Ev X ρ e t' := h.cast q
theorem Ev.lsQ {X : Cx} {ρ : Rho} {e : Expr} {ts : List T} {ds : List D} (h : Ev X ρ e (.lst ts)) (q : T.ers ts = ds) : Ls X ρ e ds := q ▸ h.ls
theorem lcZF {M : Md} {N : List Str} {sc : Scope} {fc : Str → Bool} {k : Nat} {iter elt cond : Expr} {p1 p2 pos : Pos} {x y : Str} {scope : Scope} {α : Type} {xs : List α} {en en' : α → D} {g : α → T} {q : α → Bool} {kk : Nat} {tpos : Pos} (hX : XF M N sc fc k X) (i j : Nat) (hi : ItC X ρ (.Tuple [.Name x p1, .Name y p2] kk tpos) iter (xs.map fun a => .tup [en a, en' a]))
    (step : ∀ X', Blk X scope X' → XF M N (relS scope sc) (fcB scope) k X' → ∀ a ∈ xs, Te X' ((ρ.set i (some (.sh (en a)))).set j (some (.sh (en' a)))) cond (q a) ∧ (q a = true → Ev X' ((ρ.set i (some (.sh (en a)))).set j (some (.sh (en' a)))) elt (g a))) (hz : xs.length ≤ sizeLine)
    (ok : blkC N sc scope [(x, i), (y, j)] = true := by decide +kernel) (hN : N[i]? = some x := by rfl) (hl : locB (relS scope sc) (fcB scope) x = true := by decide +kernel) (hN2 : N[j]? = some y := by rfl) (hl2 : locB (relS scope sc) (fcB scope) y = true := by decide +kernel) (f : fre ρ i = true := by rfl) (f2 : fre ρ j = true := by rfl) (hij : i ≠ j := by decide)
    (hs : ∀ x, foldedSetIterable iter X.env x = pure x := by intro _; rfl) : Ev X ρ (.ListComp elt [⟨.Tuple [.Name x p1, .Name y p2] kk tpos, iter, [cond], 0⟩] scope pos) (.lst ((xs.filter q).map g)) := by
  obtain ⟨h1, h2, h3⟩ := two_hyps (own := [(x, i), (y, j)]) (ρ := ρ) rfl hij f f2
  have := Ev.lc (pos := pos) (own := [(x, i), (y, j)]) (tgt := .tup [i, j]) (ifs := [cond]) (us := xs.map fun a => if q a then some (g a) else none) (elt := elt) hX hi ok (fun X' b => (hX.blk b).pg2 i j hN hl hN2 hl2 (by obtain ⟨s, H, C, cl, fp, rfl⟩ := b; rfl)) h1 h2 (by rw [List.length_map, List.length_map]) (by rw [List.length_map]; exact hz) (fun d hd => by
      obtain ⟨a, _, rfl⟩ := List.mem_map.mp hd
      rfl) (fun j d u X' b hd hu => by
    obtain ⟨a, e1, m, rfl⟩ := map_at hd
    obtain ⟨a', e2, _, rfl⟩ := map_at hu
    rw [e1] at e2
    cases e2
    rw [h3]
    obtain ⟨s1, s2⟩ := step X' b (hX.blk b) a m
    cases hq : q a with
    | true =>
      rw [if_pos rfl]
      rw [hq] at s1
      refine ⟨Tf.one s1, fun t z => ?_⟩
      cases z
      exact s2 hq
    | false =>
      rw [if_neg Bool.false_ne_true]
      rw [hq] at s1
      exact ⟨Tf.one s1, fun t z => nomatch z⟩) hs
  rw [fm_filter] at this
  exact this
theorem Sm.lcZF {M : Md} {N : List Str} {sc : Scope} {fc : Str → Bool} {k : Nat} {iter elt cond : Expr} {p1 p2 p pos apos : Pos} {x y : Str} {scope : Scope} {K : K3} {α : Type} {xs : List α} {en en' : α → D} {g : α → T} {q : α → Bool} {kk : Nat} {tpos : Pos} {z : Str} (hX : XF M N sc fc k X) (l i j : Nat) (hi : ItC X ρ (.Tuple [.Name x p1, .Name y p2] kk tpos) iter (xs.map fun a => .tup [en a, en' a]))
    (step : ∀ X', Blk X scope X' → XF M N (relS scope sc) (fcB scope) k X' → ∀ a ∈ xs, Te X' ((ρ.set i (some (.sh (en a)))).set j (some (.sh (en' a)))) cond (q a) ∧ (q a = true → Ev X' ((ρ.set i (some (.sh (en a)))).set j (some (.sh (en' a)))) elt (g a))) (hz : xs.length ≤ sizeLine) (h : K.nx (ρ.set l (some (.lst ((xs.filter q).map g)))))
    (ok : blkC N sc scope [(x, i), (y, j)] = true := by decide +kernel) (hN : N[i]? = some x := by rfl) (hl : locB (relS scope sc) (fcB scope) x = true := by decide +kernel) (hN2 : N[j]? = some y := by rfl) (hl2 : locB (relS scope sc) (fcB scope) y = true := by decide +kernel) (f : fre ρ i = true := by rfl) (f2 : fre ρ j = true := by rfl) (hij : i ≠ j := by decide)
    (hNx : N[l]? = some z := by rfl) (hy : sc.names.lookup z = some .local := by decide +kernel) (hll : (p.line == pos.line) = true := by rfl) (hn : (scope.names.any fun (n, k) => n == z && (k == .local || k == .cell)) = false := by decide +kernel) (hk : sc.kind = .function := by rfl)
    (hs : ∀ x, foldedSetIterable iter X.env x = pure x := by intro _; rfl) : Sm X ρ (.Assign [.Name z p] (.ListComp elt [⟨.Tuple [.Name x p1, .Name y p2] kk tpos, iter, [cond], 0⟩] scope pos) apos) K := by
  obtain ⟨h1, h2, h3⟩ := two_hyps (own := [(x, i), (y, j)]) (ρ := ρ) rfl hij f f2
  refine Sm.lc (own := [(x, i), (y, j)]) (tgt := .tup [i, j]) (ifs := [cond]) (us := xs.map fun a => if q a then some (g a) else none) hX l hi ok (fun X' b => (hX.blk b).pg2 i j hN hl hN2 hl2 (by obtain ⟨s, H, C, cl, fp, rfl⟩ := b; rfl)) h1 h2 (by rw [List.length_map, List.length_map]) (by rw [List.length_map]; exact hz) (fun d hd => by
      obtain ⟨a, _, rfl⟩ := List.mem_map.mp hd
      rfl) (fun j d u X' b hd hu => by
    obtain ⟨a, e1, m, rfl⟩ := map_at hd
    obtain ⟨a', e2, _, rfl⟩ := map_at hu
    rw [e1] at e2
    cases e2
    rw [h3]
    obtain ⟨s1, s2⟩ := step X' b (hX.blk b) a m
    cases hq : q a with
    | true =>
      rw [if_pos rfl]
      rw [hq] at s1
      refine ⟨Tf.one s1, fun t z => ?_⟩
      cases z
      exact s2 hq
    | false =>
      rw [if_neg Bool.false_ne_true]
      rw [hq] at s1
      exact ⟨Tf.one s1, fun t z => nomatch z⟩) (by rw [fm_filter]; exact h) hNx hy hll hn hk hs
end
/-! ### dicts by whole numbers -/
def putD (ds : List (Key × D)) (k : Key) (d : D) : List (Key × D) :=
  if (ds.any fun kv => decide (kv.1 = k)) = true then ds.map (fun kv => if kv.1 = k then (kv.1, d) else kv) else ds ++ [(k, d)]
section
variable {K : PySem.W.Frag} {H : Hp}
theorem Rpk.any {k : Key} : ∀ {vs : List (Key × V)} {ds : List (Key × D)}, Rpk K H vs ds → (vs.any fun kv => decide (kv.1 = k)) = ds.any fun kv => decide (kv.1 = k)
  | _, _, .nil => rfl
  | _, _, .cons _ hs => by rw [List.any_cons, List.any_cons, Rpk.any hs]
theorem Rpk.mapP {k : Key} {v : V} {d : D} (r : Rp K H v d) : ∀ {vs : List (Key × V)} {ds : List (Key × D)}, Rpk K H vs ds → Rpk K H (vs.map fun kv => if kv.1 = k then (kv.1, v) else kv) (ds.map fun kv => if kv.1 = k then (kv.1, d) else kv)
  | _, _, .nil => .nil
  | _, _, .cons (n := n) h hs => by
    rw [List.map_cons, List.map_cons]
    by_cases e : n = k
    · rw [if_pos e, if_pos e]
      exact .cons r (Rpk.mapP r hs)
    · rw [if_neg e, if_neg e]
      exact .cons h (Rpk.mapP r hs)
theorem Rpk.put {k : Key} {v : V} {d : D} (r : Rp K H v d) {vs : List (Key × V)} {ds : List (Key × D)} (h : Rpk K H vs ds) : Rpk K H (putK vs k v) (putD ds k d) := by
  unfold putK putD
  rw [h.any (k := k)]
  by_cases e : (ds.any fun kv => decide (kv.1 = k)) = true
  · rw [if_pos e, if_pos e]
    exact h.mapP r
  · rw [if_neg e, if_neg e]
    exact h.snoc r
theorem Rpk.keys : ∀ {vs : List (Key × V)} {ds : List (Key × D)}, Rpk K H vs ds → vs.map (·.1) = ds.map (·.1)
  | _, _, .nil => rfl
  | _, _, .cons _ hs => by rw [List.map_cons, List.map_cons, Rpk.keys hs]
theorem Rpk.getI : ∀ {vs : List (Key × V)} {ds : List (Key × D)}, Rpk K H vs ds → ∀ {i : Nat} {q : Key × D}, ds[i]? = some q → ∃ v, vs[i]? = some (q.1, v) ∧ Rp K H v q.2
  | _, _, .nil, _, _, h => by cases h
  | _, _, .cons h hs, 0, _, e => by
    cases e
    exact ⟨_, rfl, h⟩
  | _, _, .cons h hs, i + 1, _, e => Rpk.getI hs (i := i) e
end
def keyD : Key → D
  | .inl n => .int n
  | .inr s => .str s
theorem keyD_rp {K : PySem.W.Frag} {H : Hp} : ∀ k : Key, Rp K H (kV k) (keyD k)
  | .inl n => .int n
  | .inr s => .str s
section
variable {M : Md} {N : List Str} {sc : Scope} {fc : Str → Bool} {k : Nat} {X : Cx} {ρ : Rho} {e a b c o f : Expr} {es : List Expr} {t u : T} {d dz : D} {ds : List (Key × D)} {pos apos p p1 p2 p3 pt : Pos} {x y : Str} {K : K3} {i : Nat} {tg : Expr}
/-- d.get(n, z) -/
theorem Ev.dget2 {n : Int} (hX : XF M N sc fc k X) (i : Nat) (he : Rd X ρ e (.int n)) (hf : Ev X ρ f (.sh dz)) (m2 : M2 X (.Name x p1) "get" apos e f pos := by exact ⟨rfl, rfl, rfl, rfl⟩) (hr : ρ[i]? = some (some (.dic ds)) := by rfl) (hN : N[i]? = some x := by rfl) (hv : visB sc x = true := by decide +kernel) : Ev X ρ (.Call (.Attribute (.Name x p1) "get" apos) [e, f] [] pos) (.sh ((valD ds (.inl n)).getD dz)) := fun σ H F G Q S kk =>
  best.of (pe_dget2 (u1 hX) pe_best pe_best pe_best m2) (dic_core hX i hr hN hv S fun a vs _ ha hk => ⟨a, rfl, .inl ⟨vs, .inl ha⟩, he σ H F G _ S fun v H1 s1 r1 => hf σ H1 F G _ (S.sm s1) fun z H2 E r => by
    rw [r1.intE]
    refine ⟨_, DGet.k (k := .inl n) (r.sm _ _ (s1 _ _ ha)), ?_⟩
    have rz := r.rt
    rcases hk.val (.inl n) with ⟨e1, e2⟩ | ⟨v', d', e1, e2, rv⟩
    · rw [e2] at kk
      rw [e1]
      exact kk z H2 E ⟨s1.trans r.sm, fun a ha => s1.free (r.fr a ha), r.nd, rz⟩
    · rw [e2] at kk
      rw [e1]
      exact kk v' H2 [] ⟨s1.trans r.sm, (fun a z => nomatch z), List.nodup_nil, .sh (rv.sm (del_sm (s1.trans r.sm)))⟩⟩)
/-- d[n] = e -/
theorem Sm.dset {n : Int} (hX : XF M N sc fc k X) (i : Nat) (he : Ev X ρ e (.sh d)) (hs : Rd X ρ b (.int n)) (hz : ds.length < 1000) (h : K.nx (ρ.set i (some (.dic (putD ds (.inl n) d))))) (hr : ρ[i]? = some (some (.dic ds)) := by rfl) (hN : N[i]? = some x := by rfl) (hv : visB sc x = true := by decide +kernel)
    (sw : swapsWith e (some (.Subscript (.Name x p1) b p)) pos.line X.env = pure false := by exact sw_no rfl) : Sm X ρ (.Assign [.Subscript (.Name x p1) b p] e pos) K := fun σ H F G D S w =>
  bestS.of (ps_dput (u1 hX) pe_best pe_best pe_best sw) (he σ H F G _ S fun v H1 E r => by
    have rt := r.rt
    cases rt with
    | sh rv =>
      refine dic_core hX i hr hN hv (S.sm r.sm) fun a vs ea ha hk => hs σ H1 F G _ (S.sm r.sm) fun v2 H2 s2 r2 => ?_
      rw [r2.intE]
      obtain ⟨a', vs', e1, ha', hk', up⟩ := S.dic hr
      rw [ea] at e1
      cases e1
      obtain ⟨S', st⟩ := up H2 (putK vs (.inl n) v) (putD ds (.inl n) d) (r.sm.trans s2) ((hk.sm (del_sm s2)).put (Rp.sm (H := del (F ++ G) H1) (del_sm s2) rv))
      have dp := DPut.k (k := .inl n) (v := v) (s2 _ _ ha) (by rw [hk.len]; exact small1000 (Nat.le_of_lt hz))
      exact ⟨a, _, rfl, dp, w.nx _ _ _ F S' st h⟩)
/-- while it is walked the dict is locked -/
theorem Ev.lockD (i : Nat) (h : Ev X (ρ.set i (some (.sh (.dicL ds)))) e t) (ho : Own t) (hr : ρ[i]? = some (some (.dic ds)) := by rfl) : Ev X ρ e t := fun σ H F G Q S kk => by
  obtain ⟨v, F2, F', ev, S', rt, mem⟩ := S.take hr
  cases rt with
  | @dic a vs _ ha hk =>
    have nd := S'.nd
    have aF : a ∉ F' := fun z => (List.nodup_append.mp nd).2.2 a z a (List.mem_cons_self ..) rfl
    have aG : a ∉ G := fun z => (List.nodup_cons.mp (List.nodup_append.mp nd).2.1).1 z
    refine best.of (pe_lock pe_best) ⟨a, .dK vs, ha, trivial, fun od => ?_⟩
    have up : ∀ b, b ≠ a → upd H a (.frz od (.dK vs)) b = H b := fun b hb => upd_ne hb
    have sm1 : Same (del (F' ++ ([a] ++ G)) H) (del (F' ++ G) (upd H a (.frz od (.dK vs)))) := fun b o q => by
      obtain ⟨q1, q2⟩ := del_some q
      rw [List.mem_append, List.mem_append] at q1
      refine (del_out fun z => ?_).trans ((up b fun z => ?_).trans q2)
      · rcases List.mem_append.mp z with z | z
        · exact q1 (.inl z)
        · exact q1 (.inr (.inr z))
      · exact q1 (.inr (.inl (List.mem_singleton.mpr z)))
    have S1 : S3 X.K ([] ++ G) σ (upd H a (.frz od (.dK vs))) (ρ.set i none) F' := ⟨S'.ro.sm sm1 fun b hb o q => (up b fun z => aF (z ▸ hb)).trans q, by
        have := nd
        simp only [List.nodup_append, List.mem_append, List.nodup_cons, List.mem_cons, List.not_mem_nil, List.cons_append, List.nil_append] at this ⊢
        exact ⟨this.1, this.2.1.2, fun x hx y hy => this.2.2 x hx y (.inr hy)⟩, fun b hb => by
        obtain ⟨o, q⟩ := S'.gs b (List.mem_append_right _ hb)
        exact ⟨o, (up b fun z => aG (z ▸ hb)).trans q⟩⟩
    obtain ⟨F3, S2, m3⟩ := S3.putE (E := []) (t := .sh (.dicL ds)) (v := .ref a) S1 (.sh (.dicL (o := od) ((del_out fun z => by
      rcases List.mem_append.mp z with z | z
      · cases z
      · rcases List.mem_append.mp z with z | z
        · exact aF z
        · exact aG z).trans upd_same) (hk.sm fun b o q => by
      obtain ⟨q1, q2⟩ := del_some q
      refine (del_out fun z => ?_).trans ((up b fun z => ?_).trans q2)
      · rcases List.mem_append.mp z with z | z
        · cases z
        · rcases List.mem_append.mp z with z | z
          · exact q1 (List.mem_append_right _ (List.mem_append_left _ z))
          · exact q1 (List.mem_append_right _ (List.mem_append_right _ z))
      · exact q1 (List.mem_append_left _ (List.mem_singleton.mpr z))))) i
    rw [List.set_set, set_self ev] at S2
    refine h σ _ F3 G _ S2 fun w H' E r => ⟨r.sm _ _ upd_same, kk w _ E ?_⟩
    have ne : ∀ c ∈ E, c ≠ a := fun c hc z => by
      have := r.fr c hc
      rw [z, upd_same] at this
      cases this
    refine ⟨fun b o q => ?_, fun c hc => (up c (ne c hc)).symm.trans (r.fr c hc), r.nd, ?_⟩
    · by_cases z : b = a
      · subst z
        rw [ha] at q
        rw [← q]
        exact upd_same
      · exact (upd_ne z).trans (r.sm _ _ ((up b z).trans q))
    · exact ho.rt _ _ (r.rt.sm (R' := del (E ++ (F3 ++ G)) H') (fun b o q => q) fun c hc o q => (upd_ne (ne c hc)).trans q)
/-- for k in d, d locked -/
theorem ItC.dicL (h : Rd X ρ e (.dicL ds)) : ItC X ρ tg e (ds.map fun kv => keyD kv.1) := ⟨_, pi_keys pe_best, fun σ H F G R S kk => h σ H F G _ S fun v H1 s r => by
  cases r with
  | @dicL a o vs _ ha hk =>
    refine ⟨a, o, rfl, .inl ⟨vs, ha, kk _ H1 s fun H2 N2 s2 s3 z => ?_⟩⟩
    have h2 := s2 _ _ ha
    refine ⟨fun i d hi => ?_, ⟨h2, by rw [List.length_map, hk.len]; exact Nat.le_refl _⟩⟩
    rw [List.getElem?_map] at hi
    cases hq : ds[i]? with
    | none => rw [hq] at hi; cases hi
    | some q =>
      rw [hq] at hi
      cases hi
      obtain ⟨w, e1, r1⟩ := hk.getI hq
      refine ⟨⟨h2, (List.getElem?_eq_some_iff.mp e1).1⟩, fun x H' y => ?_⟩
      obtain ⟨y1, k', v', y2, y3⟩ := y
      subst y1
      rw [e1] at y2
      cases y2
      subst y3
      exact ⟨.refl _, keyD_rp _⟩⟩
/-- d[n], d locked -/
theorem Rd.dgetL {n : Int} (hX : XF M N sc fc k X) (ho : Rd X ρ o (.dicL ds)) (he : Rd X ρ e (.int n)) (hd : valD ds (.inl n) = some d) (hs : NoSl e := by intro _ _; rfl) : Rd X ρ (.Subscript o e pos) d := fun σ H F G Q S kk =>
  best.of (pe_dget (u1 hX) pe_best pe_best hs) (ho σ H F G _ S fun v H1 s1 r1 => he σ H1 F G _ (S.sm s1) fun w H2 s2 r2 => by
    cases r1 with
    | @dicL a od vs _ ha hk =>
      rw [r2.intE]
      rcases hk.val (.inl n) with ⟨_, e2⟩ | ⟨v', d', e1, e2, r⟩
      · rw [hd] at e2
        cases e2
      · rw [hd] at e2
        cases e2
        exact ⟨a, v', rfl, .inl ⟨vs, .inl n, .inr ⟨od, s2 _ _ ha⟩, rfl, e1.symm⟩, kk v' H2 (s1.trans s2) (r.sm s2)⟩)
/-- max(d), whole numbers as keys -/
theorem cr_maxK (hc : X.calm = true) : CallR X (.builtin "max") (fun xs H Q => ∃ (a : Addr) (kvs : List (Key × V)) (ks : List Int), xs = [.ref a] ∧ H a = some (.dK kvs) ∧ kvs.map (·.1) = ks.map Sum.inl ∧ 0 < ks.length ∧ ∀ m, m ∈ ks → (∀ y, y ∈ ks → y ≤ m) → Q (.int m) H) := by
  intro pins s σ H xs us Q I rx h
  obtain ⟨a, kvs, ks, rfl, ha, hks, hne, q⟩ := h
  rw [Vals.ref1 rx]
  obtain ⟨z, lo, vs, rel, dd⟩ := dk_of I.hok ha
  obtain ⟨ep, hat⟩ := dd.dictAt
  have hkeys : vs.map (·.1) = ks.map Sum.inl := rel.keys.symm.trans hks
  have hl : vs.length = ks.length := by
    have e := congrArg List.length hkeys
    rw [List.length_map, List.length_map] at e
    exact e
  obtain ⟨od, es, ho, hx, hdat, hK, hP, hn⟩ := id hat
  have hes : es.size = vs.length := by rw [← hP.length, Array.length_toList]
  refine call_max_walk ?_
  refine iter_keys lo ho hx hdat ?_
  have hlt : a < s.heap.objs.size := Heap.lt_size ho
  have hval : ∀ (i : Nat) (v : Value), (∃ k x, vs[i]? = some (k, x) ∧ (mixKind X.prog X.w).is k v = true) → ∃ t, v = .int (ks.getD i 0) t := fun i v ⟨k, x, e1, e2⟩ => by
    have e3 : (vs.map (·.1))[i]? = some k := by rw [List.getElem?_map, e1]; rfl
    rw [hkeys, List.getElem?_map] at e3
    cases e4 : ks[i]? with
    | none => rw [e4] at e3; cases e3
    | some y =>
      rw [e4] at e3
      have e5 : Sum.inl y = k := Option.some.inj e3
      subst e5
      rw [List.getD_eq_getElem?_getD, e4]
      rcases keyIs_shape (show keyIs (Sum.inl y) v = true from e2) with ⟨i, t, ek, ev⟩ | ⟨z, t, ek, ev⟩
      · cases ek
        exact ⟨t, ev⟩
      · cases ek
  refine ⟨s.heap.objs.size, [s.heap.objs.size, a], [s.heap.objs.size], vs.length, fun i v => ∃ k x, vs[i]? = some (k, x) ∧ (mixKind X.prog X.w).is k v = true, _, fun i j => decide (ks.getD i 0 > ks.getD j 0), rfl, Walks.dictKeys (show X.A.in1.handled = none from I.ok.hd hc) s.heap.objs.size a (Nat.ne_of_lt hlt) vs ep, ⟨⟨_, Heap.get?_push_size _ rfl, rfl, by rw [hes]; rfl⟩, hat.keep fun b o e => Heap.get?_push_of_some _ e⟩, fun b hb => ?_, by omega, CmpOf.ints_gt (fun i => ks.getD i 0) hval, fun v h' tk hv' hk => ?_⟩
  · show b < (s.heap.push _).objs.size
    rw [size_push']
    rcases List.mem_cons.mp hb with z | z
    · rw [z]
      exact Nat.lt_succ_self _
    · rw [List.mem_singleton.mp z]
      exact Nat.lt_succ_of_lt hlt
  · obtain ⟨t, rfl⟩ := hval _ v hv'
    obtain ⟨m1', m2'⟩ := argBest_gt (fun i => ks.getD i 0) (vs.length - 1)
    have m1 : argBest (fun i j => decide (ks.getD i 0 > ks.getD j 0)) (vs.length - 1) ≤ vs.length - 1 := m1'
    have m2 : ∀ j, j ≤ vs.length - 1 → ks.getD j 0 ≤ ks.getD (argBest (fun i j => decide (ks.getD i 0 > ks.getD j 0)) (vs.length - 1)) 0 := m2'
    have hk2 : ∀ b o, s.heap.get? b = some o → h'.get? b = some o := fun b o e => hk b o (fun z => by rw [List.mem_singleton.mp z] at e; exact absurd (Heap.lt_size e) (Nat.lt_irrefl _)) (Heap.get?_push_of_some _ e)
    refine ⟨.int _, H, I.kept (t' := tk) hk2, ⟨t, rfl⟩, q _ (PySem.getD_mem (by omega)) fun y hy => ?_⟩
    obtain ⟨j, hj, e⟩ := List.mem_iff_getElem.mp hy
    have z := m2 j (by omega)
    have e3 : ks.getD j 0 = y := by rw [List.getD_eq_getElem?_getD, List.getElem?_eq_getElem hj, ← e] <;> rfl
    rw [e3] at z
    exact z
theorem e_maxD {ks : List Int} {m : Int} (hX : XF M N sc fc k X) (hm : M.mg "max" = none) (i : Nat) (hk : ds.map (·.1) = ks.map Sum.inl) (h1 : m ∈ ks) (h2 : ∀ y ∈ ks, y ≤ m) (hr : ρ[i]? = some (some (.dic ds)) := by rfl) (hN : N[i]? = some x := by rfl) (hv : visB sc x = true := by decide +kernel)
    (hs : starEach (.Name x p1 :: []) X.env = (false, eval (.Name x p1) X.env) :: starEach [] X.env := by rfl) (hg : glB sc "max" = true := by decide +kernel) : Ev X ρ (.Call (.Name "max" p) [.Name x p1] [] pos) (tI m) := by
  obtain ⟨g1, g2⟩ := hX.gl hg
  refine Ev.of_sc (pe_callB (cr_maxK hX.calm) g1 (by rw [hX.m]; exact hm) (show bootBuiltins "max" = some (.builtin "max") from by decide +kernel) (pa_cons pe_best pa_nil hs) (by decide) g2 hs rfl) trivial fun σ H F G Q S kk => dic_core hX i hr hN hv S fun a vs _ ha hkk => ?_
  refine ⟨a, vs, ks, rfl, ha, hkk.keys.trans hk, List.length_pos_of_mem h1, fun m' q1 q2 => ?_⟩
  have : m' = m := Int.le_antisymm (h2 m' q1) (q2 m h1)
  rw [this]
  exact kk _ H (.refl _) (.int _)
theorem e_sortedD {ks l : List Int} (hX : XF M N sc fc k X) (hm : M.mg "sorted" = none) (i : Nat) (hk : ds.map (·.1) = ks.map Sum.inl) (h64 : ks.length < 64) (hu : ∀ ys : List Int, ys.Perm ks → ys.Pairwise (· ≤ ·) → ys = l) (hr : ρ[i]? = some (some (.dic ds)) := by rfl) (hN : N[i]? = some x := by rfl) (hv : visB sc x = true := by decide +kernel)
    (hs : starEach (.Name x p1 :: []) X.env = (false, eval (.Name x p1) X.env) :: starEach [] X.env := by rfl) (hg : glB sc "sorted" = true := by decide +kernel) : Ev X ρ (.Call (.Name "sorted" p) [.Name x p1] [] pos) (tR l) := fun σ H F G Q S kk => by
  obtain ⟨g1, g2⟩ := hX.gl hg
  refine best.of (pe_callB (call_sortedDI hX.calm) g1 (by rw [hX.m]; exact hm) (show bootBuiltins "sorted" = some (.builtin "sorted") from by decide +kernel) (pa_cons pe_best pa_nil hs) (by decide) g2 hs rfl) (dic_core hX i hr hN hv S fun a vs _ ha hkk => ?_)
  refine ⟨a, vs, ks, rfl, .inl ha, hkk.keys.trans hk, h64, fun ys q hp hw hq => ?_⟩
  have e := hu ys hp hw
  subst e
  have := new_sh (ds := ys.map D.int) S (.refl H) (ints_rp ys) hq
  rw [List.map_map] at this
  exact kk _ _ _ this
/-- x *= e -/
theorem Sm.augM {z n : Int} (hX : XF M N sc fc k X) (i : Nat) (he : Ev X ρ e (.sh (.int n))) (hc : CMul z n) (h : K.nx (ρ.set i (some (.sh (.int (z * n)))))) (hr : ρ[i]? = some (some (.sh (.int z))) := by rfl) (hN : N[i]? = some x := by rfl) (hl : locB sc fc x = true := by decide +kernel)
    (hd : (x == ("__debug__" : Str)) = false := by decide) : Sm X ρ (.AugAssign (.Name x p) .Mult e pos) K := fun σ H F G D S w => by
  obtain ⟨l1, l2⟩ := hX.loc hl
  obtain ⟨v, F1, F2, F3, e1, r, e2, _⟩ := S.ro.get hr
  have ev : v = .int z := by
    cases r with
    | sh r => exact r.intE
  subst ev
  refine bestS.of (ps_aug (i := i) (by rw [hX.n]; exact hX.nd) (by rw [hX.n]; exact hN) l1 pe_best iop_mul l2) ⟨.int z, e1, he.rd σ H F G _ S fun y H1 s1 r1 => ⟨z, n, rfl, r1.intE, hc, ?_⟩⟩
  obtain ⟨F', S', st⟩ := S.put (t := .sh (.int (z * n))) (v := .int (z * n)) (E := []) (H' := H1) ⟨s1, (fun a z => nomatch z), List.nodup_nil, .sh (.int _)⟩ i
  exact w.nx _ H1 _ F' S' st h
end
/-! ### the text -/
def topS (i : Nat) : Stmt := PySem.Challenge.pw_restturns_k07_whole_counted.main.body.getD i (.Pass ⟨0, 0, 0, 0⟩)
abbrev s_back_of : Stmt := topS 1
abbrev N_back_of : List Str := ["prime", "rest", "other"]
abbrev P_back_of : List Str := ["prime", "rest"]
theorem c_back_of : FnScope N_back_of P_back_of (defScope s_back_of) := ⟨rfl, rfl, rfl, by decide +kernel, rfl, by decide +kernel, by decide +kernel⟩
-- 0:prime 1:rest 2:other
abbrev s_less_of : Stmt := topS 2
abbrev N_less_of : List Str := ["prime", "row", "lead", "spot", "one", "other"]
abbrev P_less_of : List Str := ["prime", "row", "lead", "spot"]
theorem c_less_of : FnScope N_less_of P_less_of (defScope s_less_of) := ⟨rfl, rfl, rfl, by decide +kernel, rfl, by decide +kernel, by decide +kernel⟩
-- 0:prime 1:row 2:lead 3:spot 4:one 5:other
abbrev s_cleared : Stmt := topS 3
abbrev N_cleared : List Str := ["prime", "rows", "wide", "leads", "row", "spot", "free", "at", "here", "times", "one", "other"]
abbrev P_cleared : List Str := ["prime", "rows", "wide"]
theorem c_cleared : FnScope N_cleared P_cleared (defScope s_cleared) := ⟨rfl, rfl, rfl, by decide +kernel, rfl, by decide +kernel, by decide +kernel⟩
-- 0:prime 1:rows 2:wide 3:leads 4:row 5:spot 6:free 7:at 8:here 9:times 10:one 11:other
abbrev s_rank_of : Stmt := topS 4
abbrev N_rank_of : List Str := ["prime", "rows"]
abbrev P_rank_of : List Str := ["prime", "rows"]
theorem c_rank_of : FnScope N_rank_of P_rank_of (defScope s_rank_of) := ⟨rfl, rfl, rfl, by decide +kernel, rfl, by decide +kernel, by decide +kernel⟩
-- 0:prime 1:rows
abbrev s_TurnError : Stmt := topS 6
abbrev s_BadRound : Stmt := topS 7
abbrev s_BadTable : Stmt := topS 8
abbrev s_BadCount : Stmt := topS 9
abbrev s_BadNumber : Stmt := topS 10
abbrev s_NotUndone : Stmt := topS 11
abbrev s_TooMany : Stmt := topS 12
abbrev s_is_whole : Stmt := topS 16
abbrev N_is_whole : List Str := ["thing"]
abbrev P_is_whole : List Str := ["thing"]
theorem c_is_whole : FnScope N_is_whole P_is_whole (defScope s_is_whole) := ⟨rfl, rfl, rfl, by decide +kernel, rfl, by decide +kernel, by decide +kernel⟩
-- 0:thing
abbrev s_check_round : Stmt := topS 17
abbrev N_check_round : List Str := ["prime"]
abbrev P_check_round : List Str := ["prime"]
theorem c_check_round : FnScope N_check_round P_check_round (defScope s_check_round) := ⟨rfl, rfl, rfl, by decide +kernel, rfl, by decide +kernel, by decide +kernel⟩
-- 0:prime
abbrev s_is_row : Stmt := topS 18
abbrev N_is_row : List Str := ["prime", "thing", "many", "one"]
abbrev P_is_row : List Str := ["prime", "thing", "many"]
theorem c_is_row : FnScope N_is_row P_is_row (defScope s_is_row) := ⟨rfl, rfl, rfl, by decide +kernel, rfl, by decide +kernel, by decide +kernel⟩
-- 0:prime 1:thing 2:many 3:one
abbrev s_is_table : Stmt := topS 19
abbrev N_is_table : List Str := ["prime", "thing", "row"]
abbrev P_is_table : List Str := ["prime", "thing"]
theorem c_is_table : FnScope N_is_table P_is_table (defScope s_is_table) := ⟨rfl, rfl, rfl, by decide +kernel, rfl, by decide +kernel, by decide +kernel⟩
-- 0:prime 1:thing 2:row
abbrev s_check_table : Stmt := topS 20
abbrev N_check_table : List Str := ["prime", "table"]
abbrev P_check_table : List Str := ["prime", "table"]
theorem c_check_table : FnScope N_check_table P_check_table (defScope s_check_table) := ⟨rfl, rfl, rfl, by decide +kernel, rfl, by decide +kernel, by decide +kernel⟩
-- 0:prime 1:table
abbrev s_check_one : Stmt := topS 21
abbrev N_check_one : List Str := ["prime", "table"]
abbrev P_check_one : List Str := ["prime", "table"]
theorem c_check_one : FnScope N_check_one P_check_one (defScope s_check_one) := ⟨rfl, rfl, rfl, by decide +kernel, rfl, by decide +kernel, by decide +kernel⟩
-- 0:prime 1:table
abbrev s_unit_of : Stmt := topS 22
abbrev N_unit_of : List Str := ["many", "row", "place"]
abbrev P_unit_of : List Str := ["many"]
theorem c_unit_of : FnScope N_unit_of P_unit_of (defScope s_unit_of) := ⟨rfl, rfl, rfl, by decide +kernel, rfl, by decide +kernel, by decide +kernel⟩
-- 0:many 1:row 2:place
abbrev s_moved_of : Stmt := topS 23
abbrev N_moved_of : List Str := ["prime", "row", "table", "found", "place", "rest", "line"]
abbrev P_moved_of : List Str := ["prime", "row", "table"]
theorem c_moved_of : FnScope N_moved_of P_moved_of (defScope s_moved_of) := ⟨rfl, rfl, rfl, by decide +kernel, rfl, by decide +kernel, by decide +kernel⟩
-- 0:prime 1:row 2:table 3:found 4:place 5:rest 6:line
abbrev s_behind_of : Stmt := topS 24
abbrev N_behind_of : List Str := ["prime", "one", "other", "row"]
abbrev P_behind_of : List Str := ["prime", "one", "other"]
theorem c_behind_of : FnScope N_behind_of P_behind_of (defScope s_behind_of) := ⟨rfl, rfl, rfl, by decide +kernel, rfl, by decide +kernel, by decide +kernel⟩
-- 0:prime 1:one 2:other 3:row
abbrev s_all_rows : Stmt := topS 26
abbrev N_all_rows : List Str := ["prime", "many", "found", "turn", "longer", "row", "rest"]
abbrev P_all_rows : List Str := ["prime", "many"]
theorem c_all_rows : FnScope N_all_rows P_all_rows (defScope s_all_rows) := ⟨rfl, rfl, rfl, by decide +kernel, rfl, by decide +kernel, by decide +kernel⟩
-- 0:prime 1:many 2:found 3:turn 4:longer 5:row 6:rest
abbrev s_round_of : Stmt := topS 28
abbrev N_round_of : List Str := ["prime", "table", "met", "here", "times", "first"]
abbrev P_round_of : List Str := ["prime", "table"]
theorem c_round_of : FnScope N_round_of P_round_of (defScope s_round_of) := ⟨rfl, rfl, rfl, by decide +kernel, rfl, by decide +kernel, by decide +kernel⟩
-- 0:prime 1:table 2:met 3:here 4:times 5:first
abbrev s_check_rows : Stmt := topS 30
abbrev N_check_rows : List Str := ["prime", "rows"]
abbrev P_check_rows : List Str := ["prime", "rows"]
theorem c_check_rows : FnScope N_check_rows P_check_rows (defScope s_check_rows) := ⟨rfl, rfl, rfl, by decide +kernel, rfl, by decide +kernel, by decide +kernel⟩
-- 0:prime 1:rows
abbrev s_how_many : Stmt := topS 31
abbrev N_how_many : List Str := ["prime", "rows", "found", "turn"]
abbrev P_how_many : List Str := ["prime", "rows"]
theorem c_how_many : FnScope N_how_many P_how_many (defScope s_how_many) := ⟨rfl, rfl, rfl, by decide +kernel, rfl, by decide +kernel, by decide +kernel⟩
-- 0:prime 1:rows 2:found 3:turn
abbrev s_power_of : Stmt := topS 32
abbrev N_power_of : List Str := ["prime", "times", "found", "turn"]
abbrev P_power_of : List Str := ["prime", "times"]
theorem c_power_of : FnScope N_power_of P_power_of (defScope s_power_of) := ⟨rfl, rfl, rfl, by decide +kernel, rfl, by decide +kernel, by decide +kernel⟩
-- 0:prime 1:times 2:found 3:turn
abbrev s_check_few : Stmt := topS 33
abbrev N_check_few : List Str := ["prime", "rows"]
abbrev P_check_few : List Str := ["prime", "rows"]
theorem c_check_few : FnScope N_check_few P_check_few (defScope s_check_few) := ⟨rfl, rfl, rfl, by decide +kernel, rfl, by decide +kernel, by decide +kernel⟩
-- 0:prime 1:rows
abbrev s_of_many : Stmt := topS 34
abbrev N_of_many : List Str := ["prime", "rows", "many", "found", "flat", "table", "at"]
abbrev P_of_many : List Str := ["prime", "rows", "many"]
theorem c_of_many : FnScope N_of_many P_of_many (defScope s_of_many) := ⟨rfl, rfl, rfl, by decide +kernel, rfl, by decide +kernel, by decide +kernel⟩
-- 0:prime 1:rows 2:many 3:found 4:flat 5:table 6:at
abbrev s_check_many : Stmt := topS 35
abbrev N_check_many : List Str := ["prime", "rows", "many"]
abbrev P_check_many : List Str := ["prime", "rows", "many"]
theorem c_check_many : FnScope N_check_many P_check_many (defScope s_check_many) := ⟨rfl, rfl, rfl, by decide +kernel, rfl, by decide +kernel, by decide +kernel⟩
-- 0:prime 1:rows 2:many
abbrev s_of_order : Stmt := topS 36
abbrev N_of_order : List Str := ["prime", "rows", "many"]
abbrev P_of_order : List Str := ["prime", "rows", "many"]
theorem c_of_order : FnScope N_of_order P_of_order (defScope s_of_order) := ⟨rfl, rfl, rfl, by decide +kernel, rfl, by decide +kernel, by decide +kernel⟩
-- 0:prime 1:rows 2:many
abbrev s_table_by : Stmt := topS 37
abbrev N_table_by : List Str := ["prime", "rows", "many", "number", "some"]
abbrev P_table_by : List Str := ["prime", "rows", "many", "number"]
theorem c_table_by : FnScope N_table_by P_table_by (defScope s_table_by) := ⟨rfl, rfl, rfl, by decide +kernel, rfl, by decide +kernel, by decide +kernel⟩
-- 0:prime 1:rows 2:many 3:number 4:some
abbrev s_number_of : Stmt := topS 38
abbrev N_number_of : List Str := ["prime", "table"]
abbrev P_number_of : List Str := ["prime", "table"]
theorem c_number_of : FnScope N_number_of P_number_of (defScope s_number_of) := ⟨rfl, rfl, rfl, by decide +kernel, rfl, by decide +kernel, by decide +kernel⟩
-- 0:prime 1:table
abbrev s__law_cell_at : Stmt := topS 40
abbrev N__law_cell_at : List Str := ["_law_script", "_law_k"]
abbrev P__law_cell_at : List Str := ["_law_script", "_law_k"]
theorem c__law_cell_at : FnScope N__law_cell_at P__law_cell_at (defScope s__law_cell_at) := ⟨rfl, rfl, rfl, by decide +kernel, rfl, by decide +kernel, by decide +kernel⟩
-- 0:_law_script 1:_law_k
abbrev s__law_draw : Stmt := topS 41
abbrev N__law_draw : List Str := ["_law_cell", "_law_k", "_law_many", "_law_primes"]
abbrev P__law_draw : List Str := ["_law_cell", "_law_k", "_law_many"]
theorem c__law_draw : FnScope N__law_draw P__law_draw (defScope s__law_draw) := ⟨rfl, rfl, rfl, by decide +kernel, rfl, by decide +kernel, by decide +kernel⟩
-- 0:_law_cell 1:_law_k 2:_law_many 3:_law_primes
abbrev s__law_value : Stmt := topS 42
abbrev N__law_value : List Str := ["_law_cell", "_law_turn", "_law_rest", "_law_blend"]
abbrev P__law_value : List Str := ["_law_cell", "_law_turn"]
theorem c__law_value : FnScope N__law_value P__law_value (defScope s__law_value) := ⟨rfl, rfl, rfl, by decide +kernel, rfl, by decide +kernel, by decide +kernel⟩
-- 0:_law_cell 1:_law_turn 2:_law_rest 3:_law_blend
abbrev s__law_whole : Stmt := topS 43
abbrev N__law_whole : List Str := ["_law_number"]
abbrev P__law_whole : List Str := ["_law_number"]
theorem c__law_whole : FnScope N__law_whole P__law_whole (defScope s__law_whole) := ⟨rfl, rfl, rfl, by decide +kernel, rfl, by decide +kernel, by decide +kernel⟩
-- 0:_law_number
abbrev s__law_copy : Stmt := topS 44
abbrev N__law_copy : List Str := ["_law_table", "_law_row"]
abbrev P__law_copy : List Str := ["_law_table"]
theorem c__law_copy : FnScope N__law_copy P__law_copy (defScope s__law_copy) := ⟨rfl, rfl, rfl, by decide +kernel, rfl, by decide +kernel, by decide +kernel⟩
-- 0:_law_table 1:_law_row
abbrev s__law_unit : Stmt := topS 45
abbrev N__law_unit : List Str := ["_law_many", "_law_row", "_law_place"]
abbrev P__law_unit : List Str := ["_law_many"]
theorem c__law_unit : FnScope N__law_unit P__law_unit (defScope s__law_unit) := ⟨rfl, rfl, rfl, by decide +kernel, rfl, by decide +kernel, by decide +kernel⟩
-- 0:_law_many 1:_law_row 2:_law_place
abbrev s__law_moved : Stmt := topS 46
abbrev N__law_moved : List Str := ["_law_prime", "_law_row", "_law_table", "_law_found", "_law_rest", "_law_line", "_law_one", "_law_more"]
abbrev P__law_moved : List Str := ["_law_prime", "_law_row", "_law_table"]
theorem c__law_moved : FnScope N__law_moved P__law_moved (defScope s__law_moved) := ⟨rfl, rfl, rfl, by decide +kernel, rfl, by decide +kernel, by decide +kernel⟩
-- 0:_law_prime 1:_law_row 2:_law_table 3:_law_found 4:_law_rest 5:_law_line 6:_law_one 7:_law_more
abbrev s__law_behind : Stmt := topS 47
abbrev N__law_behind : List Str := ["_law_prime", "_law_one", "_law_other", "_law_row"]
abbrev P__law_behind : List Str := ["_law_prime", "_law_one", "_law_other"]
theorem c__law_behind : FnScope N__law_behind P__law_behind (defScope s__law_behind) := ⟨rfl, rfl, rfl, by decide +kernel, rfl, by decide +kernel, by decide +kernel⟩
-- 0:_law_prime 1:_law_one 2:_law_other 3:_law_row
abbrev s__law_is_row : Stmt := topS 48
abbrev N__law_is_row : List Str := ["_law_prime", "_law_thing", "_law_many", "_law_rest"]
abbrev P__law_is_row : List Str := ["_law_prime", "_law_thing", "_law_many"]
theorem c__law_is_row : FnScope N__law_is_row P__law_is_row (defScope s__law_is_row) := ⟨rfl, rfl, rfl, by decide +kernel, rfl, by decide +kernel, by decide +kernel⟩
-- 0:_law_prime 1:_law_thing 2:_law_many 3:_law_rest
abbrev s__law_is_table : Stmt := topS 49
abbrev N__law_is_table : List Str := ["_law_prime", "_law_thing", "_law_many", "_law_row"]
abbrev P__law_is_table : List Str := ["_law_prime", "_law_thing", "_law_many"]
theorem c__law_is_table : FnScope N__law_is_table P__law_is_table (defScope s__law_is_table) := ⟨rfl, rfl, rfl, by decide +kernel, rfl, by decide +kernel, by decide +kernel⟩
-- 0:_law_prime 1:_law_thing 2:_law_many 3:_law_row
abbrev s__law_rows : Stmt := topS 50
abbrev N__law_rows : List Str := ["_law_prime", "_law_many", "_law_found", "_law_turn", "_law_longer", "_law_row", "_law_rest"]
abbrev P__law_rows : List Str := ["_law_prime", "_law_many"]
theorem c__law_rows : FnScope N__law_rows P__law_rows (defScope s__law_rows) := ⟨rfl, rfl, rfl, by decide +kernel, rfl, by decide +kernel, by decide +kernel⟩
-- 0:_law_prime 1:_law_many 2:_law_found 3:_law_turn 4:_law_longer 5:_law_row 6:_law_rest
abbrev s__law_spanned : Stmt := topS 51
abbrev N__law_spanned : List Str := ["_law_prime", "_law_rows_here", "_law_many", "_law_found", "_law_row", "_law_more", "_law_times_here", "_law_one", "_law_rest", "_law_other"]
abbrev P__law_spanned : List Str := ["_law_prime", "_law_rows_here", "_law_many"]
theorem c__law_spanned : FnScope N__law_spanned P__law_spanned (defScope s__law_spanned) := ⟨rfl, rfl, rfl, by decide +kernel, rfl, by decide +kernel, by decide +kernel⟩
-- 0:_law_prime 1:_law_rows_here 2:_law_many 3:_law_found 4:_law_row 5:_law_more 6:_law_times_here 7:_law_one 8:_law_rest 9:_law_other
abbrev s__law_rank : Stmt := topS 52
abbrev N__law_rank : List Str := ["_law_prime", "_law_rows_here", "_law_many", "_law_size", "_law_found"]
abbrev P__law_rank : List Str := ["_law_prime", "_law_rows_here", "_law_many"]
theorem c__law_rank : FnScope N__law_rank P__law_rank (defScope s__law_rank) := ⟨rfl, rfl, rfl, by decide +kernel, rfl, by decide +kernel, by decide +kernel⟩
-- 0:_law_prime 1:_law_rows_here 2:_law_many 3:_law_size 4:_law_found
abbrev s__law_times : Stmt := topS 53
abbrev N__law_times : List Str := ["_law_prime", "_law_table", "_law_here", "_law_times_here"]
abbrev P__law_times : List Str := ["_law_prime", "_law_table"]
theorem c__law_times : FnScope N__law_times P__law_times (defScope s__law_times) := ⟨rfl, rfl, rfl, by decide +kernel, rfl, by decide +kernel, by decide +kernel⟩
-- 0:_law_prime 1:_law_table 2:_law_here 3:_law_times_here
abbrev s__law_few_right : Stmt := topS 54
abbrev N__law_few_right : List Str := ["_law_value_here", "_law_table"]
abbrev P__law_few_right : List Str := ["_law_value_here"]
theorem c__law_few_right : FnScope N__law_few_right P__law_few_right (defScope s__law_few_right) := ⟨rfl, rfl, rfl, by decide +kernel, rfl, by decide +kernel, by decide +kernel⟩
-- 0:_law_value_here 1:_law_table
abbrev s_law : Stmt := topS 55
abbrev N_law : List Str := ["_law_script", "_law_value_here", "_law_prime", "_law_rows_here", "_law_every", "_law_flat", "_law_table", "_law_at", "_law_times_here", "_law_found", "_law_due", "_law_number", "_law_handed", "_law_told"]
abbrev P_law : List Str := ["_law_script"]
theorem c_law : FnScope N_law P_law (defScope s_law) := ⟨rfl, rfl, rfl, by decide +kernel, rfl, by decide +kernel, by decide +kernel⟩
-- 0:_law_script 1:_law_value_here 2:_law_prime 3:_law_rows_here 4:_law_every 5:_law_flat 6:_law_table 7:_law_at 8:_law_times_here 9:_law_found 10:_law_due 11:_law_number 12:_law_handed 13:_law_told
/-! ### the mathematics of tables -/
def isRow (p : Int) (xs : List Int) (n : Int) : Bool := decide ((xs.length : Int) = n) && xs.all fun x => decide (0 ≤ x) && decide (x < p)
def isTable (p : Int) (t : List (List Int)) : Bool := (decide (1 ≤ (t.length : Int)) && decide ((t.length : Int) ≤ 3)) && t.all fun r => isRow p r t.length
/-- a table of n rows by p -/
structure Tab (p : Int) (n : Nat) (t : List (List Int)) : Prop where
  len : t.length = n
  row : ∀ r ∈ t, r.length = n ∧ ∀ x ∈ r, 0 ≤ x ∧ x < p
structure RowOk (p : Int) (n : Nat) (r : List Int) : Prop where
  len : r.length = n
  rest : ∀ x ∈ r, 0 ≤ x ∧ x < p
def Round (p : Int) : Prop := p = 2 ∨ p = 3 ∨ p = 5 ∨ p = 7
def unitL (n : Nat) : List (List Int) := (List.range n).map fun i => (List.range n).map fun j => if i = j then 1 else 0
def movedL (p : Int) (row : List Int) (t : List (List Int)) : List Int := (List.range t.length).map fun j => ((row.zip t).map fun q => q.1 * q.2.getD j 0).sum % p
def behindL (p : Int) (one other : List (List Int)) : List (List Int) := one.map fun r => movedL p r other
def togetherL (p : Int) (one other : List (List Int)) (times : Int) : List (List Int) := (one.zip other).map fun q => (q.1.zip q.2).map fun z => (z.1 + times * z.2) % p
/-- the loop of turned_of -/
def turnLoop (p : Int) : Nat → List (List Int) → List (List Int) → Nat → List (List Int)
  | 0, found, _, _ => found
  | f + 1, found, here, m => if m = 0 then found else turnLoop p f (if m % 2 = 1 then behindL p found here else found) (behindL p here here) (m / 2)
def turnedL (p : Int) (t : List (List Int)) (m : Nat) : List (List Int) := turnLoop p m (unitL t.length) t m
theorem Round.pos {p : Int} (h : Round p) : 0 < p := by rcases h with h | h | h | h <;> omega
theorem Round.le {p : Int} (h : Round p) : p ≤ 7 := by rcases h with h | h | h | h <;> omega
theorem Tab.mem {p : Int} {n : Nat} {t : List (List Int)} (h : Tab p n t) {r : List Int} (hr : r ∈ t) : RowOk p n r := ⟨(h.row r hr).1, (h.row r hr).2⟩
theorem Tab.isTable {p : Int} {n : Nat} {t : List (List Int)} (h : Tab p n t) (h1 : 1 ≤ n) (h3 : n ≤ 3) : isTable p t = true := by
  unfold L3.isTable L3.isRow
  rw [h.len]
  simp only [Bool.and_eq_true, decide_eq_true_eq, List.all_eq_true]
  refine ⟨by omega, fun r hr => ⟨by rw [(h.row r hr).1], (h.row r hr).2⟩⟩
theorem RowOk.isRow {p : Int} {n : Nat} {r : List Int} (h : RowOk p n r) : isRow p r n = true := by
  unfold L3.isRow
  simp only [Bool.and_eq_true, decide_eq_true_eq, List.all_eq_true]
  exact ⟨by rw [h.len], h.rest⟩
theorem isRow_ok {p : Int} {n : Nat} {r : List Int} (h : isRow p r n = true) : RowOk p n r := by
  unfold L3.isRow at h
  simp only [Bool.and_eq_true, decide_eq_true_eq, List.all_eq_true] at h
  exact ⟨by omega, h.2⟩
theorem isTable_ok {p : Int} {t : List (List Int)} (h : isTable p t = true) : Tab p t.length t ∧ 1 ≤ t.length ∧ t.length ≤ 3 := by
  unfold L3.isTable at h
  simp only [Bool.and_eq_true, decide_eq_true_eq, List.all_eq_true] at h
  refine ⟨⟨rfl, fun r hr => ?_⟩, by omega, by omega⟩
  have := isRow_ok (h.2 r hr)
  exact ⟨this.len, this.rest⟩
theorem movedL_len (p : Int) (row : List Int) (t : List (List Int)) : (movedL p row t).length = t.length := by
  unfold movedL
  rw [List.length_map, List.length_range]
theorem movedL_ok {p : Int} (hp : 0 < p) (row : List Int) (t : List (List Int)) : RowOk p t.length (movedL p row t) := ⟨movedL_len p row t, fun x hx => by
  obtain ⟨j, _, rfl⟩ := List.mem_map.mp hx
  exact ⟨Int.emod_nonneg _ (by omega), Int.emod_lt_of_pos _ hp⟩⟩
theorem behindL_ok {p : Int} (hp : 0 < p) {n : Nat} {one other : List (List Int)} (h1 : one.length = n) (h2 : other.length = n) : Tab p n (behindL p one other) := ⟨by unfold behindL; rw [List.length_map, h1], fun r hr => by
  obtain ⟨q, _, rfl⟩ := List.mem_map.mp hr
  have := movedL_ok hp q other
  rw [h2] at this
  exact ⟨this.len, this.rest⟩⟩
theorem unitL_len (n : Nat) : (unitL n).length = n := by
  unfold unitL
  rw [List.length_map, List.length_range]
theorem unitL_ok {p : Int} (hp : 2 ≤ p) (n : Nat) : Tab p n (unitL n) := ⟨unitL_len n, fun r hr => by
  obtain ⟨i, _, rfl⟩ := List.mem_map.mp hr
  refine ⟨by rw [List.length_map, List.length_range], fun x hx => ?_⟩
  obtain ⟨j, _, rfl⟩ := List.mem_map.mp hx
  split <;> omega⟩
theorem Round.two {p : Int} (h : Round p) : 2 ≤ p := by rcases h with h | h | h | h <;> omega
/-! ### the algebra of tables -/
def sm (n : Nat) (f : Nat → Int) : Int := ((List.range n).map f).sum
theorem sm_zero (f : Nat → Int) : sm 0 f = 0 := rfl
theorem sm_succ (n : Nat) (f : Nat → Int) : sm (n + 1) f = sm n f + f n := by
  unfold sm
  rw [List.range_succ, List.map_append, List.sum_append]
  show _ + (f n + 0) = _
  rw [Int.add_zero]
theorem sm_congr {n : Nat} {f g : Nat → Int} (h : ∀ i, i < n → f i = g i) : sm n f = sm n g := by
  unfold sm
  rw [List.map_congr_left fun i hi => h i (List.mem_range.mp hi)]
theorem sm_add (n : Nat) (f g : Nat → Int) : sm n (fun i => f i + g i) = sm n f + sm n g := by
  induction n with
  | zero => rfl
  | succ n ih => rw [sm_succ, sm_succ, sm_succ, ih]; omega
theorem sm_mulL (n : Nat) (c : Int) (f : Nat → Int) : sm n (fun i => c * f i) = c * sm n f := by
  induction n with
  | zero => rw [sm_zero, sm_zero, Int.mul_zero]
  | succ n ih => rw [sm_succ, sm_succ, ih, Int.mul_add]
theorem sm_mulR (n : Nat) (c : Int) (f : Nat → Int) : sm n (fun i => f i * c) = sm n f * c := by
  induction n with
  | zero => rw [sm_zero, sm_zero, Int.zero_mul]
  | succ n ih => rw [sm_succ, sm_succ, ih, Int.add_mul]
theorem sm_const0 (n : Nat) : sm n (fun _ => 0) = 0 := by
  induction n with
  | zero => rfl
  | succ n ih => rw [sm_succ, ih]; rfl
theorem sm_swap (n m : Nat) (f : Nat → Nat → Int) : sm n (fun i => sm m fun j => f i j) = sm m fun j => sm n fun i => f i j := by
  induction n with
  | zero =>
    rw [sm_zero, ← sm_const0 m]
    rfl
  | succ n ih =>
    rw [sm_succ, ih, ← sm_add]
    exact sm_congr fun j _ => (sm_succ n _).symm
theorem sm_mod (n : Nat) (p : Int) (f : Nat → Int) : sm n (fun i => f i % p) % p = sm n f % p := by
  induction n with
  | zero => rfl
  | succ n ih =>
    rw [sm_succ, sm_succ, Int.add_emod, ih, Int.emod_emod_of_dvd _ (Int.dvd_refl p), ← Int.add_emod]
theorem sm_modc {n : Nat} {p : Int} {f g : Nat → Int} (h : ∀ i, i < n → f i % p = g i % p) : sm n f % p = sm n g % p := by
  rw [← sm_mod n p f, ← sm_mod n p g, sm_congr h]
theorem sm_one (n : Nat) (i : Nat) (f : Nat → Int) : sm n (fun k => (if i = k then 1 else 0) * f k) = if i < n then f i else 0 := by
  induction n with
  | zero => rfl
  | succ n ih =>
    rw [sm_succ, ih]
    by_cases e : i = n
    · subst e
      rw [if_neg (by omega), if_pos rfl, if_pos (by omega), Int.one_mul, Int.zero_add]
    · rw [if_neg e, Int.zero_mul, Int.add_zero]
      by_cases q : i < n
      · rw [if_pos q, if_pos (by omega)]
      · rw [if_neg q, if_neg (by omega)]
/-- a table by its rests -/
def ent (t : List (List Int)) (i j : Nat) : Int := (t.getD i []).getD j 0
def ofF (n : Nat) (f : Nat → Nat → Int) : List (List Int) := (List.range n).map fun i => (List.range n).map fun j => f i j
theorem row_ext {n : Nat} {r s : List Int} (hr : r.length = n) (hs : s.length = n) (h : ∀ j, j < n → r.getD j 0 = s.getD j 0) : r = s := by
  refine List.ext_getElem? fun j => ?_
  by_cases q : j < n
  · have e := h j q
    rw [List.getD_eq_getElem?_getD, List.getD_eq_getElem?_getD, List.getElem?_eq_getElem (by omega), List.getElem?_eq_getElem (by omega)] at e
    rw [List.getElem?_eq_getElem (by omega), List.getElem?_eq_getElem (by omega)]
    exact congrArg some e
  · rw [List.getElem?_eq_none (by omega), List.getElem?_eq_none (by omega)]
theorem getD_range {α : Type} {n : Nat} (f : Nat → α) (d : α) {j : Nat} (h : j < n) : ((List.range n).map f).getD j d = f j := by
  rw [List.getD_eq_getElem?_getD, List.getElem?_map, List.getElem?_range h]
  rfl
theorem ent_ofF {n : Nat} (f : Nat → Nat → Int) {i j : Nat} (hi : i < n) (hj : j < n) : ent (ofF n f) i j = f i j := by
  unfold ent ofF
  rw [getD_range _ _ hi, getD_range _ _ hj]
theorem getD_mem {α : Type} {xs : List α} {i : Nat} (d : α) (h : i < xs.length) : xs.getD i d ∈ xs := by
  rw [List.getD_eq_getElem?_getD, List.getElem?_eq_getElem h]
  exact List.getElem_mem h
theorem tab_ext {n : Nat} {s t : List (List Int)} (hs : s.length = n) (ht : t.length = n) (ws : ∀ r ∈ s, r.length = n) (wt : ∀ r ∈ t, r.length = n) (h : ∀ i j, i < n → j < n → ent s i j = ent t i j) : s = t := by
  refine List.ext_getElem? fun i => ?_
  by_cases q : i < n
  · have e : s.getD i [] = t.getD i [] := row_ext (ws _ (getD_mem [] (by omega))) (wt _ (getD_mem [] (by omega))) fun j hj => h i j q hj
    rw [List.getD_eq_getElem?_getD, List.getD_eq_getElem?_getD, List.getElem?_eq_getElem (by omega), List.getElem?_eq_getElem (by omega)] at e
    rw [List.getElem?_eq_getElem (by omega), List.getElem?_eq_getElem (by omega)]
    exact congrArg some e
  · rw [List.getElem?_eq_none (by omega), List.getElem?_eq_none (by omega)]
theorem ofF_len (n : Nat) (f : Nat → Nat → Int) : (ofF n f).length = n := by
  unfold ofF
  rw [List.length_map, List.length_range]
theorem ofF_row (n : Nat) (f : Nat → Nat → Int) : ∀ r ∈ ofF n f, r.length = n := fun r hr => by
  obtain ⟨i, _, rfl⟩ := List.mem_map.mp hr
  rw [List.length_map, List.length_range]
theorem Tab.ofF {p : Int} {n : Nat} {t : List (List Int)} (h : Tab p n t) : t = ofF n (ent t) :=
  tab_ext h.len (ofF_len _ _) (fun r hr => (h.row r hr).1) (ofF_row _ _) fun _ _ hi hj => (ent_ofF _ hi hj).symm
theorem Tab.ext {p q : Int} {n : Nat} {s t : List (List Int)} (hs : Tab p n s) (ht : Tab q n t) (h : ∀ i j, i < n → j < n → ent s i j = ent t i j) : s = t :=
  tab_ext hs.len ht.len (fun r hr => (hs.row r hr).1) (fun r hr => (ht.row r hr).1) h
theorem Tab.ent {p : Int} {n : Nat} {t : List (List Int)} (h : Tab p n t) {i j : Nat} (hi : i < n) (hj : j < n) : 0 ≤ ent t i j ∧ ent t i j < p := by
  have hr := getD_mem (xs := t) [] (by rw [h.len]; exact hi)
  have := h.row _ hr
  exact this.2 _ (getD_mem 0 (by rw [this.1]; exact hj))
theorem Tab.mod {p : Int} {n : Nat} {t : List (List Int)} (h : Tab p n t) {i j : Nat} (hi : i < n) (hj : j < n) : L3.ent t i j % p = L3.ent t i j := by
  have := h.ent hi hj
  exact Int.emod_eq_of_lt this.1 this.2
theorem zip_sum (t : List (List Int)) (r : List Int) (j : Nat) : ∀ n, r.length = n → t.length = n → ((r.zip t).map fun q => q.1 * q.2.getD j 0).sum = sm n fun k => r.getD k 0 * (t.getD k []).getD j 0 := by
  intro n h1 h2
  unfold sm
  congr 1
  refine List.ext_getElem? fun k => ?_
  by_cases h : k < n
  · have hk : k < (r.zip t).length := by rw [List.length_zip]; omega
    rw [List.getElem?_map, List.getElem?_map, List.getElem?_range h, List.getElem?_eq_getElem hk, List.getElem_zip]
    show some _ = some (r.getD k 0 * (t.getD k []).getD j 0)
    rw [List.getD_eq_getElem?_getD (l := r), List.getD_eq_getElem?_getD (l := t), List.getElem?_eq_getElem (show k < r.length by omega), List.getElem?_eq_getElem (show k < t.length by omega)]
    rfl
  · rw [List.getElem?_eq_none (by rw [List.length_map, List.length_zip]; omega), List.getElem?_eq_none (by rw [List.length_map, List.length_range]; omega)]
theorem moved_at {p : Int} {n : Nat} {r : List Int} {t : List (List Int)} (h1 : r.length = n) (h2 : t.length = n) {j : Nat} (hj : j < n) : (movedL p r t).getD j 0 = (sm n fun k => r.getD k 0 * ent t k j) % p := by
  unfold movedL
  rw [h2, getD_range _ _ hj, zip_sum t r j n h1 h2]
  rfl
theorem behind_ent {p : Int} {n : Nat} {a b : List (List Int)} (ha : Tab p n a) (hb : Tab p n b) {i j : Nat} (hi : i < n) (hj : j < n) : ent (behindL p a b) i j = (sm n fun k => ent a i k * ent b k j) % p := by
  have e : (behindL p a b).getD i [] = movedL p (a.getD i []) b := by
    unfold behindL
    rw [List.getD_eq_getElem?_getD, List.getElem?_map, List.getElem?_eq_getElem (show i < a.length by rw [ha.len]; exact hi), List.getD_eq_getElem?_getD, List.getElem?_eq_getElem (show i < a.length by rw [ha.len]; exact hi)]
    rfl
  unfold ent
  rw [e, moved_at (ha.row _ (getD_mem [] (by rw [ha.len]; exact hi))).1 hb.len hj]
  rfl
theorem Tab.behind {p : Int} (hp : 0 < p) {n : Nat} {a b : List (List Int)} (ha : Tab p n a) (hb : Tab p n b) : Tab p n (behindL p a b) := behindL_ok hp ha.len hb.len
theorem behind_assoc {p : Int} (hp : 0 < p) {n : Nat} {a b c : List (List Int)} (ha : Tab p n a) (hb : Tab p n b) (hc : Tab p n c) : behindL p (behindL p a b) c = behindL p a (behindL p b c) := by
  have hab := ha.behind hp hb
  have hbc := hb.behind hp hc
  refine (hab.behind hp hc).ext (ha.behind hp hbc) fun i j hi hj => ?_
  rw [behind_ent hab hc hi hj, behind_ent ha hbc hi hj]
  have e1 : (sm n fun k => ent (behindL p a b) i k * ent c k j) % p = (sm n fun k => sm n fun l => ent a i l * (ent b l k * ent c k j)) % p := sm_modc fun k hk => by
    rw [behind_ent ha hb hi hk, Int.mul_emod, Int.emod_emod_of_dvd _ (Int.dvd_refl p), ← Int.mul_emod, ← sm_mulR]
    congr 1
    exact sm_congr fun l _ => Int.mul_assoc ..
  have e2 : (sm n fun l => ent a i l * ent (behindL p b c) l j) % p = (sm n fun l => sm n fun k => ent a i l * (ent b l k * ent c k j)) % p := sm_modc fun l hl => by
    rw [behind_ent hb hc hl hj, Int.mul_emod, Int.emod_emod_of_dvd _ (Int.dvd_refl p), ← Int.mul_emod, ← sm_mulL]
  rw [e1, e2, sm_swap]
theorem unit_ent {n i j : Nat} (hi : i < n) (hj : j < n) : ent (unitL n) i j = if i = j then 1 else 0 := ent_ofF (fun i j => if i = j then 1 else 0) hi hj
theorem unit_behind {p : Int} (hp : 2 ≤ p) {n : Nat} {a : List (List Int)} (ha : Tab p n a) : behindL p (unitL n) a = a := by
  have hu := unitL_ok hp n
  refine (hu.behind (by omega) ha).ext ha fun i j hi hj => ?_
  rw [behind_ent hu ha hi hj, sm_congr (g := fun k => (if i = k then 1 else 0) * ent a k j) fun k hk => by rw [unit_ent hi hk], sm_one n i fun k => ent a k j, if_pos hi]
  exact ha.mod hi hj
theorem behind_unit {p : Int} (hp : 2 ≤ p) {n : Nat} {a : List (List Int)} (ha : Tab p n a) : behindL p a (unitL n) = a := by
  have hu := unitL_ok hp n
  refine (ha.behind (by omega) hu).ext ha fun i j hi hj => ?_
  rw [behind_ent ha hu hi hj, sm_congr (g := fun k => (if j = k then 1 else 0) * ent a i k) fun k hk => by
    rw [unit_ent hk hj, Int.mul_comm]
    by_cases e : k = j
    · rw [if_pos e, if_pos e.symm]
    · rw [if_neg e, if_neg fun z => e z.symm], sm_one n j fun k => ent a i k, if_pos hj]
  exact ha.mod hi hj
/-- so many times behind one another -/
def pwL (p : Int) (n : Nat) (t : List (List Int)) : Nat → List (List Int)
  | 0 => unitL n
  | m + 1 => behindL p (pwL p n t m) t
theorem pw_ok {p : Int} (hp : 2 ≤ p) {n : Nat} {t : List (List Int)} (ht : Tab p n t) : ∀ m, Tab p n (pwL p n t m)
  | 0 => unitL_ok hp n
  | m + 1 => (pw_ok hp ht m).behind (by omega) ht
theorem pw_add {p : Int} (hp : 2 ≤ p) {n : Nat} {t : List (List Int)} (ht : Tab p n t) (a : Nat) : ∀ b, pwL p n t (a + b) = behindL p (pwL p n t a) (pwL p n t b)
  | 0 => (behind_unit hp (pw_ok hp ht a)).symm
  | b + 1 => by
    show behindL p (pwL p n t (a + b)) t = behindL p _ (behindL p (pwL p n t b) t)
    rw [pw_add hp ht a b, behind_assoc (by omega) (pw_ok hp ht a) (pw_ok hp ht b) ht]
theorem pw_one {p : Int} (hp : 2 ≤ p) {n : Nat} {t : List (List Int)} (ht : Tab p n t) : pwL p n t 1 = t := unit_behind hp ht
theorem pw_sq {p : Int} (hp : 2 ≤ p) {n : Nat} {t : List (List Int)} (ht : Tab p n t) : ∀ m, pwL p n (behindL p t t) m = pwL p n t (2 * m)
  | 0 => rfl
  | m + 1 => by
    show behindL p (pwL p n (behindL p t t) m) (behindL p t t) = behindL p (behindL p (pwL p n t (2 * m)) t) t
    rw [pw_sq hp ht m, behind_assoc (by omega) (pw_ok hp ht _) ht ht]
theorem turnLoop_pw {p : Int} (hp : 2 ≤ p) {n : Nat} : ∀ (f m : Nat) (a b : List (List Int)), m ≤ f → Tab p n a → Tab p n b → turnLoop p f a b m = behindL p a (pwL p n b m)
  | 0, m, a, b, h, ha, hb => by
    have : m = 0 := by omega
    subst this
    exact (behind_unit hp ha).symm
  | f + 1, m, a, b, h, ha, hb => by
    unfold turnLoop
    have hp0 : 0 < p := by omega
    by_cases h0 : m = 0
    · subst h0
      rw [if_pos rfl]
      exact (behind_unit hp ha).symm
    · rw [if_neg h0]
      have hbb := hb.behind hp0 hb
      by_cases h1 : m % 2 = 1
      · rw [if_pos h1, turnLoop_pw hp f (m / 2) _ _ (by omega) (ha.behind hp0 hb) hbb, pw_sq hp hb, behind_assoc hp0 ha hb (pw_ok hp hb _)]
        congr 1
        have e : m = 1 + 2 * (m / 2) := by omega
        have e2 := pw_add hp hb 1 (2 * (m / 2))
        rw [← e, pw_one hp hb] at e2
        exact e2.symm
      · rw [if_neg h1, turnLoop_pw hp f (m / 2) _ _ (by omega) ha hbb, pw_sq hp hb]
        congr 2
        omega
theorem turnedL_pw {p : Int} (hp : 2 ≤ p) {n : Nat} {t : List (List Int)} (ht : Tab p n t) (m : Nat) : turnedL p t m = pwL p n t m := by
  unfold turnedL
  rw [ht.len, turnLoop_pw hp m m _ _ (Nat.le_refl _) (unitL_ok hp n) ht, unit_behind hp (pw_ok hp ht m)]
/-! ### rows that are made of some: by lists -/
def addL (p : Int) (row : List Int) (times : Int) (one : List Int) : List Int := (one.zip row).map fun z => (z.1 + times * z.2) % p
def moreL (p : Int) (found : List (List Int)) (row : List Int) (j : Nat) : List (List Int) := ((List.range j).map fun (times : Nat) => found.map (addL p row times)).flatten
def stepL (p : Int) (found : List (List Int)) (row : List Int) : List (List Int) := if inB row found then found else moreL p found row p.toNat
def spanL (p : Int) (n : Nat) (rows : List (List Int)) : List (List Int) := rows.foldl (stepL p) [List.replicate n 0]
theorem moreL_len (p : Int) (found : List (List Int)) (row : List Int) : ∀ j, (moreL p found row j).length = j * found.length
  | 0 => by
    show (List.flatten []).length = _
    simp
  | j + 1 => by
    have ih := moreL_len p found row j
    unfold moreL at ih ⊢
    rw [List.range_succ, List.map_append, List.flatten_append, List.length_append, ih, Nat.add_mul]
    simp
theorem moreL_row {p : Int} (hp : 0 < p) {n : Nat} {found : List (List Int)} {row : List Int} (hf : ∀ r ∈ found, RowOk p n r) (hr : row.length = n) (j : Nat) : ∀ r ∈ moreL p found row j, RowOk p n r := fun r hm => by
  unfold moreL at hm
  obtain ⟨l, hl, hm⟩ := List.mem_flatten.mp hm
  obtain ⟨t, _, rfl⟩ := List.mem_map.mp hl
  obtain ⟨one, ho, rfl⟩ := List.mem_map.mp hm
  refine ⟨by unfold addL; rw [List.length_map, List.length_zip, (hf one ho).len, hr]; omega, fun x hx => ?_⟩
  obtain ⟨z, _, rfl⟩ := List.mem_map.mp hx
  exact ⟨Int.emod_nonneg _ (by omega), Int.emod_lt_of_pos _ hp⟩
structure SpOk (p : Int) (n : Nat) (found : List (List Int)) (b : Nat) : Prop where
  row : ∀ r ∈ found, RowOk p n r
  len : found.length ≤ b
theorem SpOk.step {p : Int} (hp : Round p) {n b : Nat} {found : List (List Int)} (h : SpOk p n found b) {row : List Int} (hr : RowOk p n row) : SpOk p n (stepL p found row) (7 * b) := by
  unfold stepL
  have := hp.le
  have := hp.pos
  split
  · exact ⟨h.row, by have := h.len; omega⟩
  · refine ⟨moreL_row hp.pos h.row hr.len _, ?_⟩
    rw [moreL_len]
    exact Nat.mul_le_mul (by omega) h.len
theorem span0 {p : Int} (hp : 0 < p) (n : Nat) : SpOk p n [List.replicate n 0] 1 := ⟨fun r hr => by
  rw [List.mem_singleton.mp hr]
  exact ⟨List.length_replicate, fun x hx => by
    rw [List.eq_of_mem_replicate hx]
    omega⟩, Nat.le_refl 1⟩
theorem span_take {p : Int} (hp : Round p) (n : Nat) {rows : List (List Int)} (hr : ∀ r ∈ rows, RowOk p n r) : ∀ j, SpOk p n ((rows.take j).foldl (stepL p) [List.replicate n 0]) (7 ^ j)
  | 0 => span0 hp.pos n
  | j + 1 => by
    have ih := span_take hp n hr j
    rw [List.take_add_one, List.foldl_append, Nat.pow_succ, Nat.mul_comm]
    cases e : rows[j]? with
    | none => exact ⟨ih.row, Nat.le_trans ih.len (by omega)⟩
    | some r => exact ih.step hp (hr r (List.mem_of_getElem? e))
theorem span_ok {p : Int} (hp : Round p) {n : Nat} {rows : List (List Int)} (hr : ∀ r ∈ rows, RowOk p n r) : SpOk p n (spanL p n rows) (7 ^ rows.length) := by
  have := span_take hp n hr rows.length
  rw [List.take_length] at this
  exact this
def rkL (p : Int) : Nat → Nat → Nat → Nat
  | 0, _, f => f
  | g + 1, s, f => if 1 < s then rkL p g (s / p.toNat) (f + 1) else f
def rankL (p : Int) (n : Nat) (rows : List (List Int)) : Nat := rkL p (spanL p n rows).length (spanL p n rows).length 0
theorem rkL_stop (p : Int) (g f : Nat) {s : Nat} (h : ¬ 1 < s) : rkL p g s f = f := by
  cases g with
  | zero => rfl
  | succ g => unfold rkL; rw [if_neg h]
theorem rkL_fuel {p : Int} (hp : 2 ≤ p) : ∀ (g g' s f : Nat), s ≤ g → s ≤ g' → rkL p g s f = rkL p g' s f
  | 0, g', s, f, h, _ => by rw [rkL_stop p 0 f (by omega), rkL_stop p g' f (by omega)]
  | g + 1, 0, s, f, _, h => by rw [rkL_stop p _ f (by omega), rkL_stop p 0 f (by omega)]
  | g + 1, g' + 1, s, f, h, h' => by
    unfold rkL
    split
    · have : s / p.toNat < s := Nat.div_lt_self (by omega) (by omega)
      exact rkL_fuel hp g g' _ _ (by omega) (by omega)
    · rfl
theorem pow7 {j : Nat} (h : j ≤ 3) : 7 ^ j ≤ 343 := by
  have : j = 0 ∨ j = 1 ∨ j = 2 ∨ j = 3 := by omega
  rcases this with e | e | e | e <;> subst e <;> decide
/-! ### all rows, all tables -/
abbrev Tb := List (List Int)
def rowsA (p : Int) : Nat → List (List Int)
  | 0 => [[]]
  | n + 1 => ((rowsA p n).map fun r => (List.range p.toNat).map fun (x : Nat) => (x : Int) :: r).flatten
def tabsA (p : Int) (n : Nat) : Nat → List Tb
  | 0 => [[]]
  | m + 1 => ((tabsA p n m).map fun t => (rowsA p n).map fun r => r :: t).flatten
theorem rowsA_mem {p : Int} : ∀ {r : List Int}, (∀ x ∈ r, 0 ≤ x ∧ x < p) → r ∈ rowsA p r.length
  | [], _ => List.mem_singleton.mpr rfl
  | x :: r, h => by
    have hx := h x (List.mem_cons_self ..)
    refine List.mem_flatten.mpr ⟨_, List.mem_map.mpr ⟨r, rowsA_mem fun y hy => h y (List.mem_cons_of_mem _ hy), rfl⟩, List.mem_map.mpr ⟨x.toNat, List.mem_range.mpr (by omega), ?_⟩⟩
    rw [Int.toNat_of_nonneg hx.1]
theorem tabsA_mem {p : Int} {n : Nat} : ∀ {t : Tb}, (∀ r ∈ t, r.length = n ∧ ∀ x ∈ r, 0 ≤ x ∧ x < p) → t ∈ tabsA p n t.length
  | [], _ => List.mem_singleton.mpr rfl
  | r :: t, h => by
    have hr := h r (List.mem_cons_self ..)
    refine List.mem_flatten.mpr ⟨_, List.mem_map.mpr ⟨t, tabsA_mem fun y hy => h y (List.mem_cons_of_mem _ hy), rfl⟩, List.mem_map.mpr ⟨r, ?_, rfl⟩⟩
    have := rowsA_mem hr.2
    rw [hr.1] at this
    exact this
theorem Tab.all {p : Int} {n : Nat} {t : Tb} (h : Tab p n t) : t ∈ tabsA p n n := by
  have := tabsA_mem h.row
  rw [h.len] at this
  exact this
/-! ### rests as a field -/
def Zp (p : Int) : Type := Quot fun a b : Int => a % p = b % p
class Rnd (p : Int) : Prop where
  h : Round p
namespace Zp
variable {p : Int}
def mk (p a : Int) : Zp p := Quot.mk _ a
def val : Zp p → Int := Quot.lift (· % p) fun _ _ h => h
theorem val_mk (a : Int) : val (mk p a) = a % p := rfl
theorem sound {a b : Int} (h : a % p = b % p) : mk p a = mk p b := Quot.sound h
theorem exact {a b : Int} (h : mk p a = mk p b) : a % p = b % p := congrArg val h
theorem mk_mod (a : Int) : mk p (a % p) = mk p a := sound (Int.emod_emod_of_dvd _ (Int.dvd_refl p))
theorem mk_val (z : Zp p) : mk p (val z) = z := by
  induction z using Quot.ind
  exact mk_mod _
theorem val_mod (z : Zp p) : val z % p = val z := by
  induction z using Quot.ind
  exact Int.emod_emod_of_dvd _ (Int.dvd_refl p)
def lift1 (f : Int → Int) (h : ∀ a b, a % p = b % p → f a % p = f b % p) : Zp p → Zp p := Quot.lift (fun a => mk p (f a)) fun a b e => sound (h a b e)
def lift2 (f : Int → Int → Int) (h : ∀ a b c d, a % p = b % p → c % p = d % p → f a c % p = f b d % p) : Zp p → Zp p → Zp p :=
  Quot.lift (fun a => Quot.lift (fun c => mk p (f a c)) fun c d e => sound (h a a c d rfl e)) fun a b e => funext fun z => by
    induction z using Quot.ind
    exact sound (h a b _ _ e rfl)
def add : Zp p → Zp p → Zp p := lift2 (· + ·) fun a b c d e1 e2 => by
  show (a + c) % p = (b + d) % p
  rw [Int.add_emod, e1, e2, ← Int.add_emod]
def mul : Zp p → Zp p → Zp p := lift2 (· * ·) fun a b c d e1 e2 => by
  show (a * c) % p = (b * d) % p
  rw [Int.mul_emod, e1, e2, ← Int.mul_emod]
def neg : Zp p → Zp p := lift1 (- ·) fun a b e => by
  show (-a) % p = (-b) % p
  have h := Int.emod_emod_of_dvd a (Int.dvd_refl p)
  have h1 : (-a) % p = (-(a % p)) % p := by
    rw [← Int.zero_sub, ← Int.zero_sub, Int.sub_emod 0 a, Int.sub_emod 0 (a % p), h]
  have h2 : (-b) % p = (-(b % p)) % p := by
    rw [← Int.zero_sub, ← Int.zero_sub, Int.sub_emod 0 b, Int.sub_emod 0 (b % p), Int.emod_emod_of_dvd b (Int.dvd_refl p)]
  rw [h1, h2, e]
def pow (z : Zp p) : Nat → Zp p
  | 0 => mk p 1
  | n + 1 => mul (pow z n) z
def inv (z : Zp p) : Zp p := mk p (val z ^ (2 * p - 3).toNat)
instance : Add (Zp p) := ⟨add⟩
instance : Mul (Zp p) := ⟨mul⟩
instance : Neg (Zp p) := ⟨neg⟩
instance : Sub (Zp p) := ⟨fun a b => add a (neg b)⟩
instance : Inv (Zp p) := ⟨inv⟩
instance : Div (Zp p) := ⟨fun a b => mul a (inv b)⟩
instance : NatCast (Zp p) := ⟨fun n => mk p n⟩
instance : IntCast (Zp p) := ⟨fun n => mk p n⟩
instance (n : Nat) : OfNat (Zp p) n := ⟨mk p n⟩
instance : SMul Nat (Zp p) := ⟨fun n z => mul (mk p n) z⟩
instance : SMul Int (Zp p) := ⟨fun n z => mul (mk p n) z⟩
instance : HPow (Zp p) Nat (Zp p) := ⟨pow⟩
theorem ind3 {P : Zp p → Zp p → Zp p → Prop} (h : ∀ a b c, P (mk p a) (mk p b) (mk p c)) : ∀ a b c, P a b c := fun a b c => by
  induction a using Quot.ind
  induction b using Quot.ind
  induction c using Quot.ind
  exact h _ _ _
theorem mk_add (a b : Int) : mk p (a + b) = mk p a + mk p b := rfl
theorem mk_mul (a b : Int) : mk p (a * b) = mk p a * mk p b := rfl
theorem mk_neg (a : Int) : mk p (-a) = -mk p a := rfl
theorem mk_sub (a b : Int) : mk p (a - b) = mk p a - mk p b := rfl
theorem mk_zero : mk p 0 = 0 := rfl
theorem mk_one : mk p 1 = 1 := rfl
theorem mul_c (a b : Zp p) : a * b = b * a := ind3 (P := fun a b _ => a * b = b * a) (fun a b _ => congrArg (mk p) (Int.mul_comm a b)) a b 0
instance ring : Lean.Grind.CommRing (Zp p) where
  add_zero a := ind3 (P := fun a _ _ => a + 0 = a) (fun a _ _ => congrArg (mk p) (Int.add_zero a)) a 0 0
  add_comm a b := ind3 (P := fun a b _ => a + b = b + a) (fun a b _ => congrArg (mk p) (Int.add_comm a b)) a b 0
  add_assoc a b c := ind3 (P := fun a b c => a + b + c = a + (b + c)) (fun a b c => congrArg (mk p) (Int.add_assoc a b c)) a b c
  mul_assoc a b c := ind3 (P := fun a b c => a * b * c = a * (b * c)) (fun a b c => congrArg (mk p) (Int.mul_assoc a b c)) a b c
  mul_one a := ind3 (P := fun a _ _ => a * 1 = a) (fun a _ _ => congrArg (mk p) (Int.mul_one a)) a 0 0
  one_mul a := ind3 (P := fun a _ _ => 1 * a = a) (fun a _ _ => congrArg (mk p) (Int.one_mul a)) a 0 0
  left_distrib a b c := ind3 (P := fun a b c => a * (b + c) = a * b + a * c) (fun a b c => congrArg (mk p) (Int.mul_add a b c)) a b c
  right_distrib a b c := ind3 (P := fun a b c => (a + b) * c = a * c + b * c) (fun a b c => congrArg (mk p) (Int.add_mul a b c)) a b c
  zero_mul a := ind3 (P := fun a _ _ => 0 * a = 0) (fun a _ _ => congrArg (mk p) (Int.zero_mul a)) a 0 0
  mul_zero a := ind3 (P := fun a _ _ => a * 0 = 0) (fun a _ _ => congrArg (mk p) (Int.mul_zero a)) a 0 0
  pow_zero _ := rfl
  pow_succ _ _ := rfl
  neg_add_cancel a := ind3 (P := fun a _ _ => -a + a = 0) (fun a _ _ => congrArg (mk p) (Int.add_left_neg a)) a 0 0
  sub_eq_add_neg _ _ := rfl
  neg_zsmul i a := ind3 (P := fun a _ _ => (-i) • a = -(i • a)) (fun a _ _ => congrArg (mk p) (Int.neg_mul i a)) a 0 0
  mul_comm a b := mul_c a b
  ofNat_succ _ := rfl
theorem eq0 {z : Zp p} : z = 0 ↔ val z = 0 := ⟨fun h => by rw [h]; exact Int.zero_emod p, fun h => by rw [← mk_val z, h]; rfl⟩
theorem inv_ok (hp : Round p) (v : Int) (h : v % p ≠ 0) : (v % p * (v % p) ^ (2 * p - 3).toNat) % p = 1 := by
  have h1 := Int.emod_nonneg v (show p ≠ 0 from by have := hp.pos; omega)
  have h2 := Int.emod_lt_of_pos v hp.pos
  generalize v % p = w at h h1 h2
  have : w = 1 ∨ w = 2 ∨ w = 3 ∨ w = 4 ∨ w = 5 ∨ w = 6 := by rcases hp with e | e | e | e <;> omega
  rcases hp with e | e | e | e <;> subst e <;> rcases this with e | e | e | e | e | e <;> subst e <;> first | decide | omega
theorem zno (R : Rnd p) : (0 : Zp p) ≠ 1 := fun h => by
  have h1 : (0 : Int) % p = 1 % p := exact h
  have := R.h.two
  rw [Int.zero_emod, Int.emod_eq_of_lt (by decide) (by omega)] at h1
  cases h1
theorem inv_z (R : Rnd p) : inv (0 : Zp p) = 0 := by
  show mk p ((0 % p) ^ _) = mk p 0
  have := R.h.two
  rw [Int.zero_emod, Int.zero_pow (by omega)]
theorem mul_inv (R : Rnd p) {a : Zp p} (h : a ≠ 0) : a * inv a = 1 := by
  have h' : val a % p ≠ 0 := fun e => h (eq0.mpr (by rw [← val_mod]; exact e))
  have h1 : a * inv a = mk p (val a % p) * mk p ((val a % p) ^ (2 * p - 3).toNat) := by
    rw [mk_mod, mk_val, val_mod]
    rfl
  rw [h1, ← mk_mul]
  refine sound (p := p) (b := 1) ?_
  rw [inv_ok R.h _ h', Int.emod_eq_of_lt (by decide) (by have := R.h.two; omega)]
theorem inv_inv (R : Rnd p) (a : Zp p) : inv (inv a) = a := by
  by_cases h : a = 0
  · rw [h, inv_z R, inv_z R]
  · have h1 := mul_inv R h
    have h2 : inv a ≠ 0 := fun e => zno R (by rw [← h1, e]; exact (ring.mul_zero a).symm)
    have h3 := mul_inv R h2
    calc inv (inv a) = (a * inv a) * inv (inv a) := by rw [h1]; exact (ring.one_mul _).symm
      _ = a * (inv a * inv (inv a)) := ring.mul_assoc ..
      _ = a := by rw [h3]; exact ring.mul_one a
theorem inv_1 (R : Rnd p) : inv (1 : Zp p) = 1 := by
  have h := mul_inv R (a := 1) fun e => zno R e.symm
  have e : (1 : Zp p) * inv 1 = inv 1 := ring.one_mul _
  exact e.symm.trans h
instance field [R : Rnd p] : Lean.Grind.Field (Zp p) where
  zpow := ⟨fun z i => match i with
    | .ofNat n => pow z n
    | .negSucc n => inv (pow z (n + 1))⟩
  div_eq_mul_inv _ _ := rfl
  zero_ne_one := zno R
  inv_zero := inv_z R
  mul_inv_cancel h := mul_inv R h
  zpow_zero _ := rfl
  zpow_succ a n := rfl
  zpow_neg a n := by
    cases n with
    | ofNat n => cases n with
      | zero => exact (inv_1 R).symm
      | succ n => rfl
    | negSucc n => exact (inv_inv R _).symm
end Zp
/-! ### rows that are made of some -/
/-- the rest at a place, in the field -/
def rz (p : Int) (r : List Int) (j : Nat) : Zp p := Zp.mk p (r.getD j 0)
theorem row_extZ {p : Int} {w : Nat} {r s : List Int} (hr : RowOk p w r) (hs : RowOk p w s) (h : ∀ j, j < w → rz p r j = rz p s j) : r = s := by
  refine row_ext hr.len hs.len fun j hj => ?_
  have e := Zp.exact (h j hj)
  have h1 := hr.rest _ (getD_mem 0 (show j < r.length by rw [hr.len]; exact hj))
  have h2 := hs.rest _ (getD_mem 0 (show j < s.length by rw [hs.len]; exact hj))
  rw [Int.emod_eq_of_lt h1.1 h1.2, Int.emod_eq_of_lt h2.1 h2.2] at e
  exact e
theorem rz_out {p : Int} {r : List Int} {j : Nat} (h : r.length ≤ j) : rz p r j = 0 := by
  unfold rz
  rw [List.getD_eq_getElem?_getD, List.getElem?_eq_none h]
  rfl
def zeroR (w : Nat) : List Int := List.replicate w 0
theorem zeroR_ok {p : Int} (hp : 0 < p) (w : Nat) : RowOk p w (zeroR w) := ⟨List.length_replicate, fun x hx => by
  rw [List.eq_of_mem_replicate hx]
  omega⟩
theorem rz_zero (p : Int) (w j : Nat) : rz p (zeroR w) j = 0 := by
  unfold rz zeroR
  rw [List.getD_eq_getElem?_getD, List.getElem?_replicate]
  split <;> rfl
theorem addL_ok {p : Int} (hp : 0 < p) {w : Nat} {row one : List Int} {c : Int} (h1 : row.length = w) (h2 : one.length = w) : RowOk p w (addL p row c one) := ⟨by unfold addL; rw [List.length_map, List.length_zip, h1, h2, Nat.min_self], fun x hx => by
  obtain ⟨z, _, rfl⟩ := List.mem_map.mp hx
  exact ⟨Int.emod_nonneg _ (by omega), Int.emod_lt_of_pos _ hp⟩⟩
theorem getD_zip {xs ys : List Int} (f : Int × Int → Int) (hf : f (0, 0) = 0) {j : Nat} (h : xs.length = ys.length) : ((xs.zip ys).map f).getD j 0 = f (xs.getD j 0, ys.getD j 0) := by
  by_cases q : j < xs.length
  · rw [List.getD_eq_getElem?_getD, List.getElem?_map, List.getElem?_eq_getElem (by rw [List.length_zip]; omega), List.getElem_zip, List.getD_eq_getElem?_getD, List.getElem?_eq_getElem q, List.getD_eq_getElem?_getD, List.getElem?_eq_getElem (by omega)]
    rfl
  · rw [List.getD_eq_getElem?_getD, List.getElem?_eq_none (by rw [List.length_map, List.length_zip]; omega), List.getD_eq_getElem?_getD, List.getElem?_eq_none (by omega), List.getD_eq_getElem?_getD, List.getElem?_eq_none (by omega)]
    exact hf.symm
theorem rz_addL {p : Int} {row one : List Int} {c : Int} (h : row.length = one.length) (j : Nat) : rz p (addL p row c one) j = rz p one j + Zp.mk p c * rz p row j := by
  unfold rz addL
  rw [getD_zip _ (by simp) h.symm, Zp.mk_mod, Zp.mk_add, Zp.mk_mul]
/-- a row is made of some -/
inductive Sp (p : Int) (w : Nat) (rows : List (List Int)) : List Int → Prop
  | zero : Sp p w rows (zeroR w)
  | add {one row : List Int} (c : Int) : Sp p w rows one → row ∈ rows → Sp p w rows (addL p row c one)
section
variable {p : Int} {w : Nat} {rows rows' : List (List Int)}
theorem Sp.ok (hp : 0 < p) (h : ∀ r ∈ rows, r.length = w) {r : List Int} (q : Sp p w rows r) : RowOk p w r := by
  induction q with
  | zero => exact zeroR_ok hp w
  | add c _ hr ih => exact addL_ok hp (h _ hr) ih.len
theorem addL_zero {r : List Int} (hr : RowOk p w r) (hp : 0 < p) (c : Int) : addL p (zeroR w) c r = r :=
  row_extZ (addL_ok hp List.length_replicate hr.len) hr fun j _ => by
    rw [rz_addL (by rw [hr.len]; exact List.length_replicate), rz_zero]
    grind
theorem zero_addL {r : List Int} (hr : RowOk p w r) (hp : 0 < p) : addL p r 1 (zeroR w) = r :=
  row_extZ (addL_ok hp hr.len List.length_replicate) hr fun j _ => by
    rw [rz_addL (by rw [hr.len]; exact List.length_replicate.symm), rz_zero, Zp.mk_one]
    grind
/-- so many of a made row, added -/
theorem Sp.addS (hp : 0 < p) (h : ∀ r ∈ rows, r.length = w) {a b : List Int} (c : Int) (ha : Sp p w rows a) (hb : Sp p w rows b) : Sp p w rows (addL p b c a) := by
  induction hb with
  | zero => rw [addL_zero (ha.ok hp h) hp]; exact ha
  | @add one row d ho hr ih =>
    have e : addL p (addL p row d one) c a = addL p row (c * d) (addL p one c a) := by
      have oa := ha.ok hp h
      have oo := ho.ok hp h
      have or := h _ hr
      refine row_extZ (addL_ok hp (addL_ok hp or oo.len).len oa.len) (addL_ok hp or (addL_ok hp oo.len oa.len).len) fun j _ => ?_
      rw [rz_addL (by rw [oa.len, (addL_ok hp or oo.len).len]), rz_addL (by rw [or, oo.len]), rz_addL (by rw [or, (addL_ok hp oo.len oa.len).len]), rz_addL (by rw [oa.len, oo.len]), Zp.mk_mul]
      grind
    rw [e]
    exact .add _ ih hr
theorem Sp.mem (hp : 0 < p) (h : ∀ r ∈ rows, RowOk p w r) {r : List Int} (hr : r ∈ rows) : Sp p w rows r := by
  have := Sp.add (p := p) (w := w) 1 (Sp.zero (rows := rows)) hr
  rw [zero_addL (h r hr) hp] at this
  exact this
theorem Sp.sub (hp : 0 < p) (h' : ∀ r ∈ rows', r.length = w) (q : ∀ r ∈ rows, Sp p w rows' r) {r : List Int} (hr : Sp p w rows r) : Sp p w rows' r := by
  induction hr with
  | zero => exact .zero
  | add c _ hr ih => exact ih.addS hp h' c (q _ hr)
theorem Sp.mono (q : ∀ r ∈ rows, r ∈ rows') {r : List Int} (hr : Sp p w rows r) : Sp p w rows' r := by
  induction hr with
  | zero => exact .zero
  | add c _ hr ih => exact .add c ih (q _ hr)
/-- made of some and one more -/
theorem Sp.snoc (hp : 0 < p) (h : ∀ r ∈ rows, r.length = w) {x : List Int} (hx : x.length = w) {r : List Int} (hr : Sp p w (rows ++ [x]) r) : ∃ one c, Sp p w rows one ∧ r = addL p x c one := by
  induction hr with
  | zero => exact ⟨zeroR w, 0, .zero, row_extZ (zeroR_ok hp w) (addL_ok hp hx List.length_replicate) fun j _ => by
      rw [rz_addL (by rw [hx]; exact List.length_replicate.symm), rz_zero, Zp.mk_zero]
      grind⟩
  | @add one row c ho hr ih =>
    obtain ⟨u, d, hu, rfl⟩ := ih
    have ou := hu.ok hp h
    rcases List.mem_append.mp hr with q | q
    · refine ⟨addL p row c u, d, .add c hu q, ?_⟩
      have or := h _ q
      refine row_extZ (addL_ok hp or (addL_ok hp hx ou.len).len) (addL_ok hp hx (addL_ok hp or ou.len).len) fun j _ => ?_
      rw [rz_addL (by rw [or, (addL_ok hp hx ou.len).len]), rz_addL (by rw [hx, ou.len]), rz_addL (by rw [hx, (addL_ok hp or ou.len).len]), rz_addL (by rw [or, ou.len])]
      grind
    · rw [List.mem_singleton.mp q]
      refine ⟨u, c + d, hu, ?_⟩
      refine row_extZ (addL_ok hp hx (addL_ok hp hx ou.len).len) (addL_ok hp hx ou.len) fun j _ => ?_
      rw [rz_addL (by rw [hx, (addL_ok hp hx ou.len).len]), rz_addL (by rw [hx, ou.len]), rz_addL (by rw [hx, ou.len]), Zp.mk_add]
      grind
end
/-! ### how many rows are made -/
section
variable {p : Int} {w : Nat}
/-- a list of all made rows, each once -/
structure AllSp (p : Int) (w : Nat) (rows found : List (List Int)) : Prop where
  mem : ∀ r, r ∈ found ↔ Sp p w rows r
  nd : found.Nodup
theorem mem_moreL {found : List (List Int)} {row : List Int} {j : Nat} {r : List Int} : r ∈ moreL p found row j ↔ ∃ t : Nat, t < j ∧ ∃ one ∈ found, r = addL p row t one := by
  unfold moreL
  rw [List.mem_flatten]
  constructor
  · rintro ⟨l, hl, hm⟩
    obtain ⟨t, ht, rfl⟩ := List.mem_map.mp hl
    obtain ⟨one, ho, rfl⟩ := List.mem_map.mp hm
    exact ⟨t, List.mem_range.mp ht, one, ho, rfl⟩
  · rintro ⟨t, ht, one, ho, rfl⟩
    exact ⟨_, List.mem_map.mpr ⟨t, List.mem_range.mpr ht, rfl⟩, List.mem_map.mpr ⟨one, ho, rfl⟩⟩
theorem mk_toNat (hp : 0 < p) (c : Int) : Zp.mk p c = Zp.mk p ((c % p).toNat : Int) := by
  rw [Int.toNat_of_nonneg (Int.emod_nonneg _ (by omega)), Zp.mk_mod]
theorem toNat_lt (hp : 0 < p) (c : Int) : (c % p).toNat < p.toNat := by
  have := Int.emod_nonneg c (show p ≠ 0 by omega)
  have := Int.emod_lt_of_pos c hp
  omega
theorem addL_mod (hp : 0 < p) {row one : List Int} (h1 : row.length = w) (h2 : one.length = w) (c : Int) : addL p row c one = addL p row ((c % p).toNat : Int) one :=
  row_extZ (addL_ok hp h1 h2) (addL_ok hp h1 h2) fun j _ => by
    rw [rz_addL (by rw [h1, h2]), rz_addL (by rw [h1, h2]), mk_toNat hp c]
theorem addL_inj (hp : 0 < p) {row one two : List Int} (h1 : row.length = w) (h2 : RowOk p w one) (h3 : RowOk p w two) {c : Int} (e : addL p row c one = addL p row c two) : one = two :=
  row_extZ h2 h3 fun j _ => by
    have : rz p (addL p row c one) j = rz p (addL p row c two) j := congrArg (fun r => rz p r j) e
    rw [rz_addL (by rw [h1, h2.len]), rz_addL (by rw [h1, h3.len])] at this
    grind
theorem nodup_map {α β : Type} {f : α → β} : ∀ {xs : List α}, xs.Nodup → (∀ a ∈ xs, ∀ b ∈ xs, f a = f b → a = b) → (xs.map f).Nodup
  | [], _, _ => List.nodup_nil
  | x :: xs, h, q => by
    obtain ⟨h1, h2⟩ := List.nodup_cons.mp h
    refine List.nodup_cons.mpr ⟨fun z => ?_, nodup_map h2 fun a ha b hb => q a (List.mem_cons_of_mem _ ha) b (List.mem_cons_of_mem _ hb)⟩
    obtain ⟨y, hy, e⟩ := List.mem_map.mp z
    exact h1 (q y (List.mem_cons_of_mem _ hy) x (List.mem_cons_self ..) e ▸ hy)
theorem nodup_more (R : Rnd p) {rows found : List (List Int)} {row : List Int} (hr : ∀ r ∈ rows, r.length = w) (h : AllSp p w rows found) (hx : row.length = w) (hn : ¬ Sp p w rows row) (ho : RowOk p w row) : ∀ j, j ≤ p.toNat → (moreL p found row j).Nodup
  | 0, _ => by
    show (List.flatten []).Nodup
    exact List.nodup_nil
  | j + 1, hj => by
    have hp := R.h.pos
    have ih := nodup_more R hr h hx hn ho j (by omega)
    have e : moreL p found row (j + 1) = moreL p found row j ++ found.map (addL p row j) := by
      unfold moreL
      rw [List.range_succ, List.map_append, List.flatten_append]
      simp
    rw [e, List.nodup_append]
    refine ⟨ih, nodup_map h.nd fun a ha b hb e => addL_inj hp hx (((h.mem a).mp ha).ok hp hr) (((h.mem b).mp hb).ok hp hr) e, fun a ha b hb e => ?_⟩
    subst e
    obtain ⟨t, ht, one, h1, rfl⟩ := mem_moreL.mp ha
    obtain ⟨two, h2, e⟩ := List.mem_map.mp hb
    have s1 := (h.mem _).mp h1
    have s2 := (h.mem _).mp h2
    have o1 := s1.ok hp hr
    have o2 := s2.ok hp hr
    refine hn ?_
    -- (j - t) row = one - two
    have hne : Zp.mk p ((j : Int) - t) ≠ 0 := fun z => by
      have := Zp.exact (b := 0) z
      rw [Int.zero_emod, Int.emod_eq_of_lt (by omega) (by omega)] at this
      omega
    have e2 : row = addL p (addL p two (-1) one) (Zp.val (Zp.mk p ((j : Int) - t))⁻¹) (zeroR w) := by
      refine row_extZ ho (addL_ok hp (addL_ok hp o2.len o1.len).len List.length_replicate) fun i hi => ?_
      have q : rz p (addL p row j two) i = rz p (addL p row t one) i := congrArg (fun r => rz p r i) e
      rw [rz_addL (by rw [hx, o2.len]), rz_addL (by rw [hx, o1.len])] at q
      rw [rz_addL (by rw [(addL_ok hp o2.len o1.len).len]; exact List.length_replicate.symm), rz_addL (by rw [o2.len, o1.len]), rz_zero, Zp.mk_val, Zp.mk_neg, Zp.mk_one]
      rw [Zp.mk_sub] at hne ⊢
      grind
    rw [e2]
    exact Sp.zero.addS hp hr _ (s1.addS hp hr _ s2)
theorem AllSp.start (p : Int) (w : Nat) : AllSp p w [] [zeroR w] := ⟨fun r => ⟨fun h => by
  rw [List.mem_singleton.mp h]
  exact .zero, fun h => by
  cases h with
  | zero => exact List.mem_singleton_self _
  | add _ _ h => cases h⟩, List.nodup_cons.mpr ⟨(fun h => nomatch h), List.nodup_nil⟩⟩
theorem AllSp.step (R : Rnd p) {rows found : List (List Int)} (hr : ∀ r ∈ rows, r.length = w) (h : AllSp p w rows found) {row : List Int} (ho : RowOk p w row) : AllSp p w (rows ++ [row]) (stepL p found row) := by
  have hp := R.h.pos
  unfold stepL
  by_cases q : inB row found = true
  · rw [if_pos q]
    have s := (h.mem row).mp (inB_iff.mp q)
    refine ⟨fun r => ?_, h.nd⟩
    rw [h.mem]
    exact ⟨fun z => z.mono fun x hx => List.mem_append_left _ hx, fun z => by
      obtain ⟨one, c, h1, rfl⟩ := z.snoc hp hr ho.len
      exact h1.addS hp hr c s⟩
  · rw [if_neg q]
    have s : ¬ Sp p w rows row := fun z => q (inB_iff.mpr ((h.mem row).mpr z))
    refine ⟨fun r => ?_, nodup_more R hr h ho.len s ho _ (Nat.le_refl _)⟩
    rw [mem_moreL]
    constructor
    · rintro ⟨t, ht, one, h1, rfl⟩
      exact .add _ (((h.mem _).mp h1).mono fun x hx => List.mem_append_left _ hx) (List.mem_append_right _ (List.mem_singleton_self _))
    · intro z
      obtain ⟨one, c, h1, rfl⟩ := z.snoc hp hr ho.len
      exact ⟨(c % p).toNat, toNat_lt hp c, one, (h.mem _).mpr h1, addL_mod hp ho.len (h1.ok hp hr).len c⟩
theorem spanL_snoc (rows : List (List Int)) (row : List Int) : spanL p w (rows ++ [row]) = stepL p (spanL p w rows) row := by
  unfold spanL
  rw [List.foldl_append]
  rfl
theorem snoc_ind {α : Type} {P : List α → Prop} (h0 : P []) (h : ∀ xs x, P xs → P (xs ++ [x])) : ∀ xs, P xs := fun xs => by
  have : ∀ n, ∀ xs : List α, xs.length = n → P xs := fun n => by
    induction n with
    | zero => intro xs e; rw [List.length_eq_zero_iff.mp e]; exact h0
    | succ n ih =>
      intro xs e
      have ne : xs ≠ [] := fun z => by rw [z] at e; cases e
      rw [← List.dropLast_concat_getLast ne]
      exact h _ _ (ih _ (by rw [List.length_dropLast, e]; rfl))
  exact this _ xs rfl
theorem spanL_all (R : Rnd p) : ∀ rows : List (List Int), (∀ r ∈ rows, RowOk p w r) → AllSp p w rows (spanL p w rows) := by
  refine snoc_ind (fun _ => AllSp.start p w) fun xs x ih h => ?_
  rw [spanL_snoc]
  have h' : ∀ r ∈ xs, RowOk p w r := fun r hr => h r (List.mem_append_left _ hr)
  exact (ih h').step R (fun r hr => (h' r hr).len) (h x (List.mem_append_right _ (List.mem_singleton_self _)))
end
/-! ### the rank -/
theorem nodup_le {α : Type} [DecidableEq α] : ∀ {xs ys : List α}, xs.Nodup → (∀ x ∈ xs, x ∈ ys) → xs.length ≤ ys.length
  | [], _, _, _ => Nat.zero_le _
  | x :: xs, ys, h, q => by
    obtain ⟨h1, h2⟩ := List.nodup_cons.mp h
    have hx : x ∈ ys := q x (List.mem_cons_self ..)
    have := nodup_le (ys := ys.erase x) h2 fun y hy => (List.mem_erase_of_ne fun e => h1 (by rw [← e]; exact hy)).mpr (q y (List.mem_cons_of_mem _ hy))
    have e := List.length_erase_of_mem hx
    have : 0 < ys.length := List.length_pos_of_mem hx
    rw [List.length_cons]
    omega
/-- as many, each once: all -/
theorem nodup_all {α : Type} [DecidableEq α] {xs ys : List α} (h : xs.Nodup) (q : ∀ x ∈ xs, x ∈ ys) (l : ys.length ≤ xs.length) : ∀ y ∈ ys, y ∈ xs := fun y hy => by
  by_cases z : y ∈ xs
  · exact z
  · have := nodup_le (xs := y :: xs) (ys := ys) (List.nodup_cons.mpr ⟨z, h⟩) fun x hx => (List.mem_cons.mp hx).elim (fun e => e ▸ hy) (q x)
    rw [List.length_cons] at this
    omega
theorem rkL_pow {p : Int} (hp : 2 ≤ p) : ∀ (k g f : Nat), p.toNat ^ k ≤ g → rkL p g (p.toNat ^ k) f = f + k
  | 0, g, f, _ => rkL_stop p g f (by rw [Nat.pow_zero]; omega)
  | k + 1, 0, f, h => by
    have := Nat.pow_pos (n := k + 1) (show 0 < p.toNat by omega)
    omega
  | k + 1, g + 1, f, h => by
    have h1 : 0 < p.toNat ^ k := Nat.pow_pos (by omega)
    have h2 : p.toNat ^ k < p.toNat ^ (k + 1) := by
      rw [Nat.pow_succ]
      have := Nat.mul_le_mul_left (p.toNat ^ k) (show 2 ≤ p.toNat by omega)
      omega
    unfold rkL
    rw [if_pos (by omega), Nat.pow_succ, Nat.mul_div_cancel _ (by omega), rkL_pow hp k g (f + 1) (by omega)]
    omega
section
variable {p : Int} {w : Nat}
theorem spanL_pow (R : Rnd p) : ∀ rows : List (List Int), ∃ k, k ≤ rows.length ∧ (spanL p w rows).length = p.toNat ^ k := by
  refine snoc_ind ⟨0, Nat.le_refl _, rfl⟩ fun xs x ⟨k, hk, e⟩ => ?_
  rw [spanL_snoc]
  unfold stepL
  split
  · exact ⟨k, by rw [List.length_append]; omega, e⟩
  · refine ⟨k + 1, by rw [List.length_append]; exact Nat.add_le_add_right hk 1, ?_⟩
    rw [moreL_len, e, Nat.pow_succ, Nat.mul_comm]
theorem rank_len (R : Rnd p) (rows : List (List Int)) : (spanL p w rows).length = p.toNat ^ rankL p w rows := by
  obtain ⟨k, _, e⟩ := spanL_pow (w := w) R rows
  unfold rankL
  rw [e, rkL_pow R.h.two k _ 0 (Nat.le_refl _), Nat.zero_add]
theorem pow_inj (R : Rnd p) {a b : Nat} (h : p.toNat ^ a = p.toNat ^ b) : a = b := by
  have h1 : 1 < p.toNat := by have := R.h.two; omega
  exact Nat.le_antisymm ((Nat.pow_le_pow_iff_right h1).mp (Nat.le_of_eq h)) ((Nat.pow_le_pow_iff_right h1).mp (Nat.le_of_eq h.symm))
theorem rank_le (R : Rnd p) (rows : List (List Int)) : rankL p w rows ≤ rows.length := by
  obtain ⟨k, hk, e⟩ := spanL_pow (w := w) R rows
  rw [rank_len R] at e
  rw [pow_inj R e]
  exact hk
theorem rank_nil (R : Rnd p) : rankL p w [] = 0 := pow_inj R (by rw [← rank_len R]; rfl)
theorem rank_snoc (R : Rnd p) (rows : List (List Int)) (x : List Int) : rankL p w (rows ++ [x]) = if inB x (spanL p w rows) then rankL p w rows else rankL p w rows + 1 := by
  refine pow_inj R ?_
  rw [← rank_len R, spanL_snoc]
  unfold stepL
  split
  · exact rank_len R rows
  · rw [moreL_len, rank_len R, Nat.pow_succ, Nat.mul_comm]
theorem inB_sp (R : Rnd p) {rows : List (List Int)} (h : ∀ r ∈ rows, RowOk p w r) {x : List Int} : inB x (spanL p w rows) = true ↔ Sp p w rows x := inB_iff.trans ((spanL_all R rows h).mem x)
/-- what makes the same has the same rank -/
theorem rank_same (R : Rnd p) {rows rows' : List (List Int)} (h : ∀ r ∈ rows, RowOk p w r) (h' : ∀ r ∈ rows', RowOk p w r) (q : ∀ r ∈ rows, Sp p w rows' r) (q' : ∀ r ∈ rows', Sp p w rows r) : rankL p w rows = rankL p w rows' := by
  have hp := R.h.pos
  have a := spanL_all R rows h
  have b := spanL_all R rows' h'
  refine pow_inj R ?_
  rw [← rank_len R, ← rank_len R]
  refine Nat.le_antisymm (nodup_le a.nd fun r hr => (b.mem r).mpr (((a.mem r).mp hr).sub hp (fun r hr => (h' r hr).len) q)) (nodup_le b.nd fun r hr => (a.mem r).mpr (((b.mem r).mp hr).sub hp (fun r hr => (h r hr).len) q'))
theorem rank_mono (R : Rnd p) {rows rows' : List (List Int)} (h : ∀ r ∈ rows, RowOk p w r) (h' : ∀ r ∈ rows', RowOk p w r) (q : ∀ r ∈ rows, Sp p w rows' r) : rankL p w rows ≤ rankL p w rows' := by
  have hp := R.h.pos
  have a := spanL_all R rows h
  have b := spanL_all R rows' h'
  have l := nodup_le a.nd fun r hr => (b.mem r).mpr (((a.mem r).mp hr).sub hp (fun r hr => (h' r hr).len) q)
  rw [rank_len R, rank_len R] at l
  exact (Nat.pow_le_pow_iff_right (show 1 < p.toNat by have := R.h.two; omega)).mp l
/-- all rows -/
theorem rowsA_row {r : List Int} : ∀ {n : Nat}, r ∈ rowsA p n ↔ r.length = n ∧ ∀ x ∈ r, 0 ≤ x ∧ x < p := by
  induction r with
  | nil =>
    intro n
    cases n with
    | zero => exact ⟨fun _ => ⟨rfl, fun _ h => by cases h⟩, fun _ => List.mem_singleton.mpr rfl⟩
    | succ n =>
      refine ⟨fun h => ?_, fun h => by cases h.1⟩
      obtain ⟨l, h1, h2⟩ := List.mem_flatten.mp h
      obtain ⟨t, _, rfl⟩ := List.mem_map.mp h1
      obtain ⟨x, _, e⟩ := List.mem_map.mp h2
      cases e
  | cons y r ih =>
    intro n
    cases n with
    | zero => exact ⟨fun h => (by cases List.mem_singleton.mp h), fun h => (by cases h.1)⟩
    | succ n =>
      constructor
      · intro h
        obtain ⟨l, h1, h2⟩ := List.mem_flatten.mp h
        obtain ⟨t, ht, rfl⟩ := List.mem_map.mp h1
        obtain ⟨x, hx, e⟩ := List.mem_map.mp h2
        cases e
        obtain ⟨q1, q2⟩ := ih.mp ht
        refine ⟨by rw [List.length_cons, q1], fun z hz => ?_⟩
        rcases List.mem_cons.mp hz with e | e
        · subst e
          have := List.mem_range.mp hx
          omega
        · exact q2 z e
      · rintro ⟨h1, h2⟩
        have := rowsA_mem h2
        rw [h1] at this
        exact this
theorem rowsA_len : ∀ n, (rowsA p n).length = p.toNat ^ n
  | 0 => rfl
  | n + 1 => by
    unfold rowsA
    rw [List.length_flatten, List.map_map, Nat.pow_succ, ← rowsA_len n]
    have : ∀ l : List (List Int), (l.map (List.length ∘ fun r => (List.range p.toNat).map fun (x : Nat) => (x : Int) :: r)).sum = l.length * p.toNat := fun l => by
      induction l with
      | nil => simp
      | cons a l ih =>
        rw [List.map_cons, List.sum_cons, ih, List.length_cons, Nat.add_mul]
        show ((List.range p.toNat).map _).length + _ = _
        rw [List.length_map, List.length_range]
        omega
    exact this _
theorem rowsA_nd : ∀ n, (rowsA p n).Nodup
  | 0 => List.nodup_cons.mpr ⟨(fun h => nomatch h), List.nodup_nil⟩
  | n + 1 => by
    have ih := rowsA_nd n
    unfold rowsA
    generalize rowsA p n = l at ih
    induction l with
    | nil => exact List.nodup_nil
    | cons a l il =>
      obtain ⟨h1, h2⟩ := List.nodup_cons.mp ih
      rw [List.map_cons, List.flatten_cons, List.nodup_append]
      refine ⟨nodup_map List.nodup_range fun x _ y _ e => by
        have := (List.cons.inj e).1
        omega, il h2, fun x hx y hy e => ?_⟩
      subst e
      obtain ⟨t, _, rfl⟩ := List.mem_map.mp hx
      obtain ⟨m, h3, h4⟩ := List.mem_flatten.mp hy
      obtain ⟨b, hb, rfl⟩ := List.mem_map.mp h3
      obtain ⟨t', _, e⟩ := List.mem_map.mp h4
      exact h1 ((List.cons.inj e).2 ▸ hb)
theorem rowsA_ok {r : List Int} {n : Nat} : r ∈ rowsA p n ↔ RowOk p n r := ⟨fun h => ⟨(rowsA_row.mp h).1, (rowsA_row.mp h).2⟩, fun h => rowsA_row.mpr ⟨h.len, h.rest⟩⟩
/-- rank w: every row is made -/
theorem rank_full (R : Rnd p) {rows : List (List Int)} (h : ∀ r ∈ rows, RowOk p w r) : rankL p w rows = w ↔ ∀ r, RowOk p w r → Sp p w rows r := by
  have hp := R.h.pos
  have a := spanL_all R rows h
  constructor
  · intro e r hr
    refine (a.mem r).mp (nodup_all a.nd (ys := rowsA p w) (fun x hx => rowsA_ok.mpr (((a.mem x).mp hx).ok hp fun r hr => (h r hr).len)) (by rw [rowsA_len, rank_len R, e]; exact Nat.le_refl _) r (rowsA_ok.mpr hr))
  · intro q
    refine pow_inj R ?_
    rw [← rank_len R, ← rowsA_len (p := p) w]
    exact Nat.le_antisymm (nodup_le a.nd fun x hx => rowsA_ok.mpr (((a.mem x).mp hx).ok hp fun r hr => (h r hr).len)) (nodup_le (rowsA_nd w) fun x hx => (a.mem x).mpr (q x (rowsA_ok.mp hx)))
theorem rank_wide (R : Rnd p) {rows : List (List Int)} (h : ∀ r ∈ rows, RowOk p w r) : rankL p w rows ≤ w := by
  have hp := R.h.pos
  have a := spanL_all R rows h
  have l := nodup_le a.nd (ys := rowsA p w) fun x hx => rowsA_ok.mpr (((a.mem x).mp hx).ok hp fun r hr => (h r hr).len)
  rw [rank_len R, rowsA_len] at l
  exact (Nat.pow_le_pow_iff_right (show 1 < p.toNat by have := R.h.two; omega)).mp l
end
/-! ### rows cleared by one another -/
def backL (p r : Int) : Int := (((List.range (p - 1).toNat).map fun (i : Nat) => 1 + (i : Int)).filter fun o => decide (r * o % p = 1)).getD 0 0
def lessL (p : Int) (row lead : List Int) (spot : Nat) : List Int := (row.zip lead).map fun z => (z.1 - row.getD spot 0 * z.2) % p
def rowAt (rows : List (List Int)) (i : Nat) : List Int := rows.getD i []
def freeL (rows : List (List Int)) (k spot : Nat) : List Nat := (List.range (rows.length - k)).filter fun i => !decide ((rowAt rows (k + i)).getD spot 0 = 0)
def swapL (rows : List (List Int)) (a b : Nat) : List (List Int) := (rows.set a (rowAt rows b)).set b (rowAt rows a)
def scaleL (p : Int) (row : List Int) (spot : Nat) : List Int := row.map fun one => one * backL p (row.getD spot 0) % p
def clrL (p : Int) (rows : List (List Int)) (here spot : Nat) (lead : List Int) : List (List Int) := (List.range rows.length).map fun i => if i = here then lead else lessL p (rowAt rows i) lead spot
def clearStep (p : Int) (st : List (List Int) × List Nat) (spot : Nat) : List (List Int) × List Nat :=
  match freeL st.1 st.2.length spot with
  | [] => st
  | i :: _ => (clrL p (swapL st.1 (st.2.length + i) st.2.length) st.2.length spot (scaleL p (rowAt (swapL st.1 (st.2.length + i) st.2.length) st.2.length) spot), st.2 ++ [spot])
def clearTo (p : Int) (rows : List (List Int)) (j : Nat) : List (List Int) × List Nat := (List.range j).foldl (clearStep p) (rows, [])
theorem clearTo_succ (p : Int) (rows : List (List Int)) (j : Nat) : clearTo p rows (j + 1) = clearStep p (clearTo p rows j) j := by
  unfold clearTo
  rw [List.range_succ, List.foldl_append]
  rfl
def rankG (p : Int) (rows : List (List Int)) : Nat := if rows = [] then 0 else (clearTo p rows (rowAt rows 0).length).2.length
theorem rowAt_mem {rows : List (List Int)} {i : Nat} (h : i < rows.length) : rowAt rows i ∈ rows := getD_mem [] h
theorem mem_rowAt {rows : List (List Int)} {r : List Int} (h : r ∈ rows) : ∃ i, i < rows.length ∧ rowAt rows i = r := by
  obtain ⟨i, hi, e⟩ := List.mem_iff_getElem.mp h
  exact ⟨i, hi, by unfold rowAt; rw [List.getD_eq_getElem?_getD, List.getElem?_eq_getElem hi]; exact e⟩
theorem swap_len (rows : List (List Int)) (a b : Nat) : (swapL rows a b).length = rows.length := by
  unfold swapL
  rw [List.length_set, List.length_set]
theorem swap_at {rows : List (List Int)} {a b i : Nat} (ha : a < rows.length) (hb : b < rows.length) : rowAt (swapL rows a b) i = if i = b then rowAt rows a else if i = a then rowAt rows b else rowAt rows i := by
  unfold swapL
  show ((rows.set a _).set b _).getD i [] = _
  rw [List.getD_eq_getElem?_getD, List.getElem?_set, List.length_set, List.getElem?_set]
  by_cases e1 : i = b
  · subst e1
    rw [if_pos rfl, if_pos hb, if_pos rfl]
    rfl
  · rw [if_neg fun z => e1 z.symm, if_neg e1]
    by_cases e2 : i = a
    · subst e2
      rw [if_pos rfl, if_pos ha, if_pos rfl]
      rfl
    · rw [if_neg fun z => e2 z.symm, if_neg e2, ← List.getD_eq_getElem?_getD]
      rfl
theorem clr_len (p : Int) (rows : List (List Int)) (here spot : Nat) (lead : List Int) : (clrL p rows here spot lead).length = rows.length := by
  unfold clrL
  rw [List.length_map, List.length_range]
theorem clr_at {p : Int} {rows : List (List Int)} {here spot i : Nat} {lead : List Int} (h : i < rows.length) : rowAt (clrL p rows here spot lead) i = if i = here then lead else lessL p (rowAt rows i) lead spot := by
  unfold clrL
  show ((List.range rows.length).map _).getD i [] = _
  rw [getD_range _ _ h]
section
variable {p : Int} {w m : Nat}
theorem back_ok (hp : Round p) {r : Int} (h0 : 0 < r) (h1 : r < p) : r * backL p r % p = 1 ∧ 0 ≤ backL p r ∧ backL p r < p := by
  have : r = 1 ∨ r = 2 ∨ r = 3 ∨ r = 4 ∨ r = 5 ∨ r = 6 := by rcases hp with e | e | e | e <;> omega
  rcases hp with e | e | e | e <;> subst e <;> rcases this with e | e | e | e | e | e <;> subst e <;> first | decide | omega
theorem rz_less {row lead : List Int} {spot : Nat} (h : row.length = lead.length) (j : Nat) : rz p (lessL p row lead spot) j = rz p row j - rz p row spot * rz p lead j := by
  unfold rz lessL
  rw [getD_zip _ (by simp) h, Zp.mk_mod, Zp.mk_sub, Zp.mk_mul]
theorem less_ok (hp : 0 < p) {row lead : List Int} {spot : Nat} (h1 : row.length = w) (h2 : lead.length = w) : RowOk p w (lessL p row lead spot) := ⟨by unfold lessL; rw [List.length_map, List.length_zip, h1, h2, Nat.min_self], fun x hx => by
  obtain ⟨z, _, rfl⟩ := List.mem_map.mp hx
  exact ⟨Int.emod_nonneg _ (by omega), Int.emod_lt_of_pos _ hp⟩⟩
theorem scale_ok (hp : 0 < p) {row : List Int} {spot : Nat} (h1 : row.length = w) : RowOk p w (scaleL p row spot) := ⟨by unfold scaleL; rw [List.length_map, h1], fun x hx => by
  obtain ⟨z, _, rfl⟩ := List.mem_map.mp hx
  exact ⟨Int.emod_nonneg _ (by omega), Int.emod_lt_of_pos _ hp⟩⟩
theorem rz_scale {row : List Int} {spot : Nat} (j : Nat) : rz p (scaleL p row spot) j = rz p row j * Zp.mk p (backL p (row.getD spot 0)) := by
  unfold rz scaleL
  generalize backL p (row.getD spot 0) = b
  by_cases h : j < row.length
  · rw [List.getD_eq_getElem?_getD, List.getElem?_map, List.getD_eq_getElem?_getD, List.getElem?_eq_getElem h]
    show Zp.mk p (row[j] * b % p) = Zp.mk p row[j] * Zp.mk p b
    rw [Zp.mk_mod, Zp.mk_mul]
  · rw [List.getD_eq_getElem?_getD, List.getElem?_map, List.getD_eq_getElem?_getD, List.getElem?_eq_none (by omega)]
    show (0 : Zp p) = 0 * Zp.mk p b
    grind
theorem rz_ne {r : List Int} (hr : RowOk p w r) {j : Nat} (h : r.getD j 0 ≠ 0) : 0 < r.getD j 0 ∧ r.getD j 0 < p := by
  have : j < r.length := by
    refine Nat.lt_of_not_le fun z => h ?_
    rw [List.getD_eq_getElem?_getD, List.getElem?_eq_none z]
    rfl
  have := hr.rest _ (getD_mem 0 this)
  omega
theorem rz_eq0 (hp : 0 < p) {r : List Int} (hr : RowOk p w r) {j : Nat} : rz p r j = 0 ↔ r.getD j 0 = 0 := by
  constructor
  · intro h
    refine Decidable.byContradiction fun z => ?_
    have q := rz_ne hr z
    have e := Zp.exact (b := 0) h
    rw [Int.zero_emod, Int.emod_eq_of_lt (by omega) q.2] at e
    exact z e
  · intro h
    unfold rz
    rw [h]
    rfl
/-- what stands while rows are cleared -/
structure GInv (p : Int) (w m : Nat) (rows0 : List (List Int)) (s : Nat) (st : List (List Int) × List Nat) : Prop where
  len : st.1.length = m
  ok : ∀ r ∈ st.1, RowOk p w r
  to : ∀ r ∈ st.1, Sp p w rows0 r
  fro : ∀ r ∈ rows0, Sp p w st.1 r
  km : st.2.length ≤ m
  lt : ∀ l ∈ st.2, l < s
  inc : st.2.Pairwise (· < ·)
  del : ∀ i j, i < m → j < st.2.length → rz p (rowAt st.1 i) (st.2.getD j 0) = if i = j then 1 else 0
  low : ∀ i c, i < m → st.2.length ≤ i → c < s → rz p (rowAt st.1 i) c = 0
theorem getD_app {α : Type} {xs : List α} {x d : α} {j : Nat} : (xs ++ [x]).getD j d = if j < xs.length then xs.getD j d else if j = xs.length then x else d := by
  rw [List.getD_eq_getElem?_getD, List.getD_eq_getElem?_getD, List.getElem?_append]
  by_cases h : j < xs.length
  · rw [if_pos h, if_pos h]
  · rw [if_neg h, if_neg h]
    by_cases e : j = xs.length
    · subst e
      rw [if_pos rfl, Nat.sub_self]
      rfl
    · rw [if_neg e, List.getElem?_eq_none (by show _ + 1 ≤ _; simp; omega)]
      rfl
theorem GInv.step (hp : Round p) {rows0 : List (List Int)} (h0 : ∀ r ∈ rows0, RowOk p w r) {s : Nat} {st : List (List Int) × List Nat} (h : GInv p w m rows0 s st) : GInv p w m rows0 (s + 1) (clearStep p st s) := by
  have hp0 := hp.pos
  have R : Rnd p := ⟨hp⟩
  obtain ⟨rows, leads⟩ := st
  obtain ⟨len, ok, to, fro, km, lt, inc, del, low⟩ := h
  simp only at len ok to fro km lt inc del low
  subst len
  unfold clearStep
  cases hf : freeL rows leads.length s with
  | nil =>
    refine ⟨rfl, ok, to, fro, km, fun l hl => Nat.lt_succ_of_lt (lt l hl), inc, del, fun i c hi hk hc => ?_⟩
    have hk : leads.length ≤ i := hk
    by_cases e : c < s
    · exact low i c hi hk e
    · have : c = s := by omega
      subst this
      refine (rz_eq0 hp0 (ok _ (rowAt_mem hi))).mpr (Decidable.byContradiction fun z => ?_)
      have : i - leads.length ∈ freeL rows leads.length c := by
        unfold freeL
        rw [List.mem_filter]
        refine ⟨List.mem_range.mpr (by omega), ?_⟩
        show (!decide ((rowAt rows (leads.length + (i - leads.length))).getD c 0 = 0)) = true
        rw [show leads.length + (i - leads.length) = i from by omega, decide_eq_false z]
        rfl
      rw [hf] at this
      cases this
  | cons i rest =>
    have hi : i ∈ freeL rows leads.length s := by rw [hf]; exact List.mem_cons_self ..
    unfold freeL at hi
    rw [List.mem_filter, List.mem_range] at hi
    obtain ⟨hi1, hi2⟩ := hi
    have hi3 : (rowAt rows (leads.length + i)).getD s 0 ≠ 0 := fun z => by
      rw [decide_eq_true z] at hi2
      cases hi2
    show GInv p w rows.length rows0 (s + 1) (clrL p (swapL rows (leads.length + i) leads.length) leads.length s (scaleL p (rowAt (swapL rows (leads.length + i) leads.length) leads.length) s), leads ++ [s])
    generalize hk : leads.length = k at *
    have hkm : k < rows.length := by omega
    have ham : k + i < rows.length := by omega
    -- the swapped rows
    have sl := swap_len rows (k + i) k
    have sa := fun l => swap_at (rows := rows) (a := k + i) (b := k) (i := l) ham hkm
    generalize swapL rows (k + i) k = rows1 at sl sa
    have ok1 : ∀ l, l < rows.length → RowOk p w (rowAt rows1 l) := fun l hl => by
      rw [sa l]
      split
      · exact ok _ (rowAt_mem ham)
      · split
        · exact ok _ (rowAt_mem hkm)
        · exact ok _ (rowAt_mem hl)
    have to1 : ∀ l, l < rows.length → Sp p w rows0 (rowAt rows1 l) := fun l hl => by
      rw [sa l]
      split
      · exact to _ (rowAt_mem ham)
      · split
        · exact to _ (rowAt_mem hkm)
        · exact to _ (rowAt_mem hl)
    have back1 : ∀ l, l < rows.length → rowAt rows l ∈ rows1 := fun l hl => by
      by_cases e1 : l = k
      · subst e1
        by_cases e2 : l + i = l
        · have := sa l
          rw [if_pos rfl, e2] at this
          rw [← this]
          exact rowAt_mem (by omega)
        · have := sa (l + i)
          rw [if_neg e2, if_pos rfl] at this
          rw [← this]
          exact rowAt_mem (by omega)
      · by_cases e2 : l = k + i
        · subst e2
          have := sa k
          rw [if_pos rfl] at this
          rw [← this]
          exact rowAt_mem (by omega)
        · have := sa l
          rw [if_neg e1, if_neg e2] at this
          rw [← this]
          exact rowAt_mem (by omega)
    have del1 : ∀ l j, l < rows.length → j < k → rz p (rowAt rows1 l) (leads.getD j 0) = if l = j then 1 else 0 := fun l j hl hj => by
      rw [sa l]
      by_cases e1 : l = k
      · rw [if_pos e1, if_neg (by omega), del _ j ham hj, if_neg (by omega)]
      · rw [if_neg e1]
        by_cases e2 : l = k + i
        · rw [if_pos e2, if_neg (by omega), del _ j hkm hj, if_neg (by omega)]
        · rw [if_neg e2, del l j hl hj]
    have low1 : ∀ l c, l < rows.length → k ≤ l → c < s → rz p (rowAt rows1 l) c = 0 := fun l c hl hkl hc => by
      rw [sa l]
      split
      · exact low _ c ham (by omega) hc
      · split
        · exact low _ c hkm (by omega) hc
        · exact low l c hl hkl hc
    have piv : (rowAt rows1 k).getD s 0 ≠ 0 := by
      rw [sa k, if_pos rfl]
      exact hi3
    have okk := ok1 k hkm
    have pr := rz_ne okk piv
    have bk := back_ok hp pr.1 pr.2
    have bz : rz p (rowAt rows1 k) s * Zp.mk p (backL p ((rowAt rows1 k).getD s 0)) = 1 := by
      have : Zp.mk p ((rowAt rows1 k).getD s 0 * backL p ((rowAt rows1 k).getD s 0)) = Zp.mk p 1 := Zp.sound (by rw [bk.1, Int.emod_eq_of_lt (by decide) (by have := hp.two; omega)])
      exact this
    have okL := scale_ok hp0 (spot := s) okk.len
    have rzL := fun j => rz_scale (p := p) (row := rowAt rows1 k) (spot := s) j
    generalize scaleL p (rowAt rows1 k) s = lead at okL rzL
    generalize Zp.mk p (backL p ((rowAt rows1 k).getD s 0)) = bi at bz rzL
    have spL : lead = addL p (rowAt rows1 k) (Zp.val bi) (zeroR w) := row_extZ okL (addL_ok hp0 okk.len List.length_replicate) fun j _ => by
      rw [rzL, rz_addL (by rw [okk.len]; exact List.length_replicate.symm), rz_zero, Zp.mk_val]
      grind
    have l0 : ∀ r ∈ rows0, r.length = w := fun r hr => (h0 r hr).len
    have toL : Sp p w rows0 lead := by
      rw [spL]
      exact Sp.zero.addS hp0 l0 _ (to1 k hkm)
    have cl := clr_len p rows1 k s lead
    have ca := fun l (hl : l < rows.length) => clr_at (p := p) (rows := rows1) (here := k) (spot := s) (i := l) (lead := lead) (by omega)
    generalize clrL p rows1 k s lead = rows2 at cl ca
    have okl : ∀ l, l < rows.length → RowOk p w (rowAt rows2 l) := fun l hl => by
      rw [ca l hl]
      split
      · exact okL
      · exact less_ok hp0 (ok1 l hl).len okL.len
    have rzl : ∀ l, l < rows.length → l ≠ k → ∀ j, rz p (rowAt rows2 l) j = rz p (rowAt rows1 l) j - rz p (rowAt rows1 l) s * rz p lead j := fun l hl hk j => by
      rw [ca l hl, if_neg hk, rz_less (by rw [(ok1 l hl).len, okL.len])]
    have rzk : ∀ j, rz p (rowAt rows2 k) j = rz p lead j := fun j => by rw [ca k hkm, if_pos rfl]
    have ls : rz p lead s = 1 := by rw [rzL, bz]
    have lz : ∀ c, c < s → rz p lead c = 0 := fun c hc => by
      rw [rzL, low1 k c hkm (Nat.le_refl _) hc]
      grind
    refine ⟨by show rows2.length = _; rw [cl, sl], fun r hr => ?_, fun r hr => ?_, fun r hr => ?_, ?_, fun l hl => ?_, ?_, fun l j hl hj => ?_, fun l c hl hkl hc => ?_⟩
    · obtain ⟨l, hl, rfl⟩ := mem_rowAt hr
      rw [cl, sl] at hl
      exact okl l hl
    · obtain ⟨l, hl, rfl⟩ := mem_rowAt hr
      rw [cl, sl] at hl
      by_cases e : l = k
      · rw [ca l hl, if_pos e]
        exact toL
      · have : rowAt rows2 l = addL p lead (-(rowAt rows1 l).getD s 0) (rowAt rows1 l) := row_extZ (okl l hl) (addL_ok hp0 okL.len (ok1 l hl).len) fun j _ => by
          rw [rzl l hl e, rz_addL (by rw [okL.len, (ok1 l hl).len]), Zp.mk_neg]
          unfold rz
          grind
        rw [this]
        exact (to1 l hl).addS hp0 l0 _ toL
    · have ok2 : ∀ r ∈ rows2, RowOk p w r := fun r hr => by
        obtain ⟨l, hl, rfl⟩ := mem_rowAt hr
        rw [cl, sl] at hl
        exact okl l hl
      have l2 : ∀ r ∈ rows2, r.length = w := fun r hr => (ok2 r hr).len
      have sk : Sp p w rows2 lead := by
        have := rowAt_mem (rows := rows2) (i := k) (by omega)
        rw [ca k hkm, if_pos rfl] at this
        exact Sp.mem hp0 ok2 this
      have s1 : ∀ l, l < rows.length → Sp p w rows2 (rowAt rows1 l) := fun l hl => by
        by_cases e : l = k
        · subst e
          have : rowAt rows1 l = addL p lead ((rowAt rows1 l).getD s 0) (zeroR w) := row_extZ okk (addL_ok hp0 okL.len List.length_replicate) fun j _ => by
            rw [rz_addL (by rw [okL.len]; exact List.length_replicate.symm), rz_zero, rzL]
            change rz p (rowAt rows1 l) j = 0 + rz p (rowAt rows1 l) s * _
            grind
          rw [this]
          exact Sp.zero.addS hp0 l2 _ sk
        · have : rowAt rows1 l = addL p lead ((rowAt rows1 l).getD s 0) (rowAt rows2 l) := row_extZ (ok1 l hl) (addL_ok hp0 okL.len (okl l hl).len) fun j _ => by
            rw [rz_addL (by rw [okL.len, (okl l hl).len]), rzl l hl e]
            unfold rz
            grind
          rw [this]
          exact (Sp.mem hp0 ok2 (rowAt_mem (by omega))).addS hp0 l2 _ sk
      refine (fro r hr).sub hp0 l2 fun x hx => ?_
      obtain ⟨l, hl, rfl⟩ := mem_rowAt hx
      obtain ⟨l', hl', e⟩ := mem_rowAt (back1 l hl)
      rw [← e]
      exact s1 l' (by omega)
    · show (leads ++ [s]).length ≤ _
      rw [List.length_append, hk]
      exact hkm
    · rcases List.mem_append.mp hl with z | z
      · exact Nat.lt_succ_of_lt (lt l z)
      · rw [List.mem_singleton.mp z]
        exact Nat.lt_succ_self s
    · show (leads ++ [s]).Pairwise _
      rw [List.pairwise_append]
      exact ⟨inc, List.pairwise_singleton .., fun a ha b hb => by rw [List.mem_singleton.mp hb]; exact lt a ha⟩
    · show rz p (rowAt rows2 l) ((leads ++ [s]).getD j 0) = _
      have hj' : j < k + 1 := by
        have : (leads ++ [s]).length = k + 1 := by rw [List.length_append, hk]; rfl
        rw [← this]
        exact hj
      rw [getD_app, hk]
      by_cases e : j < k
      · rw [if_pos e]
        have hls : leads.getD j 0 < s := lt _ (getD_mem 0 (by omega))
        by_cases e2 : l = k
        · subst e2
          rw [rzk, lz _ hls, if_neg (by omega)]
        · rw [rzl l hl e2, lz _ hls, del1 l j hl e]
          grind
      · have : j = k := by omega
        subst this
        rw [if_neg (by omega), if_pos rfl]
        by_cases e2 : l = j
        · subst e2
          rw [rzk, ls, if_pos rfl]
        · rw [rzl l hl e2, ls, if_neg e2]
          grind
    · have hkl' : k + 1 ≤ l := by
        have : (leads ++ [s]).length = k + 1 := by rw [List.length_append, hk]; rfl
        rw [← this]
        exact hkl
      show rz p (rowAt rows2 l) c = 0
      rw [rzl l hl (by omega)]
      by_cases e : c < s
      · rw [lz c e, low1 l c hl (by omega) e]
        grind
      · have : c = s := by omega
        subst this
        rw [ls]
        grind
theorem GInv.start (hp : Round p) {rows0 : List (List Int)} (h0 : ∀ r ∈ rows0, RowOk p w r) : GInv p w rows0.length rows0 0 (rows0, []) :=
  ⟨rfl, h0, fun _ hr => Sp.mem hp.pos h0 hr, fun _ hr => Sp.mem hp.pos h0 hr, Nat.zero_le _, (fun _ h => nomatch h), List.Pairwise.nil, fun _ j _ h => absurd h (Nat.not_lt_zero j), fun _ c _ _ h => absurd h (Nat.not_lt_zero c)⟩
theorem clear_inv (hp : Round p) {rows : List (List Int)} (h0 : ∀ r ∈ rows, RowOk p w r) : ∀ j, GInv p w rows.length rows j (clearTo p rows j)
  | 0 => GInv.start hp h0
  | j + 1 => by
    rw [clearTo_succ]
    exact (clear_inv hp h0 j).step hp h0
end
/-! ### sums of rests, rows put together -/
def zs {p : Int} : Nat → (Nat → Zp p) → Zp p
  | 0, _ => 0
  | n + 1, f => zs n f + f n
section
variable {p : Int} {w m : Nat}
theorem zs_congr : ∀ {n : Nat} {f g : Nat → Zp p}, (∀ i, i < n → f i = g i) → zs n f = zs n g
  | 0, _, _, _ => rfl
  | n + 1, f, g, h => by
    show zs n f + f n = zs n g + g n
    rw [zs_congr fun i hi => h i (by omega), h n (by omega)]
theorem zs_zero : ∀ n : Nat, zs (p := p) n (fun _ => 0) = 0
  | 0 => rfl
  | n + 1 => by
    show zs n _ + 0 = 0
    rw [zs_zero n]
    grind
theorem zs_add : ∀ (n : Nat) (f g : Nat → Zp p), zs n (fun i => f i + g i) = zs n f + zs n g
  | 0, _, _ => by show (0 : Zp p) = 0 + 0; grind
  | n + 1, f, g => by
    show zs n _ + (f n + g n) = (zs n f + f n) + (zs n g + g n)
    rw [zs_add n f g]
    grind
theorem zs_mulL : ∀ (n : Nat) (c : Zp p) (f : Nat → Zp p), zs n (fun i => c * f i) = c * zs n f
  | 0, c, _ => by show (0 : Zp p) = c * 0; grind
  | n + 1, c, f => by
    show zs n _ + c * f n = c * (zs n f + f n)
    rw [zs_mulL n c f]
    grind
theorem zs_mulR (n : Nat) (c : Zp p) (f : Nat → Zp p) : zs n (fun i => f i * c) = zs n f * c := by
  rw [zs_congr (g := fun i => c * f i) fun i _ => by grind, zs_mulL]
  grind
theorem zs_swap : ∀ (n k : Nat) (f : Nat → Nat → Zp p), zs n (fun i => zs k fun j => f i j) = zs k fun j => zs n fun i => f i j
  | 0, k, f => (zs_zero k).symm
  | n + 1, k, f => by
    show zs n (fun i => zs k fun j => f i j) + zs k (fun j => f n j) = zs k fun j => zs n (fun i => f i j) + f n j
    rw [zs_swap n k f, zs_add]
theorem zs_one : ∀ (n i : Nat) (f : Nat → Zp p), zs n (fun k => (if i = k then 1 else 0) * f k) = if i < n then f i else 0
  | 0, i, f => rfl
  | n + 1, i, f => by
    show zs n _ + (if i = n then 1 else 0) * f n = _
    rw [zs_one n i f]
    by_cases e : i = n
    · subst e
      rw [if_neg (by omega), if_pos rfl, if_pos (by omega)]
      grind
    · rw [if_neg e]
      by_cases q : i < n
      · rw [if_pos q, if_pos (by omega)]
        grind
      · rw [if_neg q, if_neg (by omega)]
        grind
theorem mk_sm : ∀ (n : Nat) (f : Nat → Int), Zp.mk p (sm n f) = zs n fun i => Zp.mk p (f i)
  | 0, _ => rfl
  | n + 1, f => by
    rw [sm_succ, Zp.mk_add, mk_sm n f]
    rfl
/-- rows, each so many times, together -/
def linL (p : Int) (w : Nat) (v : List Int) (rows : List (List Int)) : List Int := (List.range w).map fun j => ((v.zip rows).map fun q => q.1 * q.2.getD j 0).sum % p
theorem linL_ok (hp : 0 < p) (v : List Int) (rows : List (List Int)) : RowOk p w (linL p w v rows) := ⟨by unfold linL; rw [List.length_map, List.length_range], fun x hx => by
  obtain ⟨j, _, rfl⟩ := List.mem_map.mp hx
  exact ⟨Int.emod_nonneg _ (by omega), Int.emod_lt_of_pos _ hp⟩⟩
theorem rz_lin {v : List Int} {rows : List (List Int)} (h1 : v.length = m) (h2 : rows.length = m) {j : Nat} (hj : j < w) : rz p (linL p w v rows) j = zs m fun k => rz p v k * rz p (rowAt rows k) j := by
  unfold rz linL
  rw [getD_range _ _ hj, Zp.mk_mod, zip_sum rows v j m h1 h2, mk_sm]
  rfl
theorem moved_lin (v : List Int) {t : List (List Int)} (h : t.length = w) : movedL p v t = linL p w v t := by
  unfold movedL linL
  rw [h]
theorem rz_moved {n : Nat} {v : List Int} {t : List (List Int)} (h1 : v.length = n) (h2 : t.length = n) {j : Nat} (hj : j < n) : rz p (movedL p v t) j = zs n fun k => rz p v k * rz p (rowAt t k) j := by
  rw [moved_lin v h2, rz_lin h1 h2 hj]
theorem rz_app {v : List Int} {c : Int} (h : v.length = m) {k : Nat} : rz p (v ++ [c]) k = if k < m then rz p v k else if k = m then Zp.mk p c else 0 := by
  unfold rz
  rw [getD_app, h]
  split
  · rfl
  · split <;> rfl
theorem rowAt_app {rows : List (List Int)} {x : List Int} (h : rows.length = m) {k : Nat} : rowAt (rows ++ [x]) k = if k < m then rowAt rows k else if k = m then x else [] := by
  unfold rowAt
  rw [getD_app, h]
theorem lin_snoc (hp : 0 < p) {v : List Int} {rows : List (List Int)} {c : Int} {x : List Int} (h1 : v.length = rows.length) (hx : x.length = w) : linL p w (v ++ [c]) (rows ++ [x]) = addL p x c (linL p w v rows) := by
  have o := linL_ok (w := w) hp v rows
  refine row_extZ (linL_ok hp _ _) (addL_ok hp hx o.len) fun j hj => ?_
  rw [rz_lin (m := rows.length + 1) (by rw [List.length_append, h1]; rfl) (by rw [List.length_append]; rfl) hj, rz_addL (by rw [hx, o.len]), rz_lin h1 rfl hj]
  show zs rows.length _ + rz p (v ++ [c]) rows.length * rz p (rowAt (rows ++ [x]) rows.length) j = _
  rw [rz_app h1, rowAt_app rfl, if_neg (Nat.lt_irrefl _), if_neg (Nat.lt_irrefl _), if_pos rfl, if_pos rfl]
  congr 1
  exact zs_congr fun k hk => by rw [rz_app h1, rowAt_app rfl, if_pos hk, if_pos hk]
theorem lin_nil (hp : 0 < p) : linL p w [] [] = zeroR w := row_extZ (linL_ok hp _ _) (zeroR_ok hp w) fun j hj => by
  rw [rz_lin (m := 0) rfl rfl hj, rz_zero]
  rfl
theorem RowOk.snoc {v : List Int} {c : Int} (h : RowOk p m v) (h1 : 0 ≤ c) (h2 : c < p) : RowOk p (m + 1) (v ++ [c]) := ⟨by rw [List.length_append, h.len]; rfl, fun x hx => by
  rcases List.mem_append.mp hx with z | z
  · exact h.rest x z
  · rw [List.mem_singleton.mp z]
    exact ⟨h1, h2⟩⟩
theorem RowOk.unsnoc {v : List Int} (h : RowOk p (m + 1) v) : ∃ u c, v = u ++ [c] ∧ RowOk p m u ∧ 0 ≤ c ∧ c < p := by
  have ne : v ≠ [] := fun z => by have := h.len; rw [z] at this; cases this
  refine ⟨v.dropLast, v.getLast ne, (List.dropLast_concat_getLast ne).symm, ⟨by rw [List.length_dropLast, h.len]; rfl, fun x hx => h.rest x (List.dropLast_subset v hx)⟩, h.rest _ (List.getLast_mem ne)⟩
/-- made of some: put together of them -/
theorem sp_lin (hp : 0 < p) : ∀ rows : List (List Int), (∀ r ∈ rows, RowOk p w r) → ∀ r, Sp p w rows r ↔ ∃ v, RowOk p rows.length v ∧ linL p w v rows = r := by
  refine snoc_ind (fun _ r => ?_) fun xs x ih h r => ?_
  · constructor
    · intro q
      cases q with
      | zero => exact ⟨[], ⟨rfl, (fun _ h => nomatch h)⟩, lin_nil hp⟩
      | add _ _ h => cases h
    · rintro ⟨v, hv, rfl⟩
      have : v = [] := List.length_eq_zero_iff.mp hv.len
      rw [this, lin_nil hp]
      exact .zero
  · have h' : ∀ r ∈ xs, RowOk p w r := fun r hr => h r (List.mem_append_left _ hr)
    have hx := h x (List.mem_append_right _ (List.mem_singleton_self _))
    constructor
    · intro q
      obtain ⟨one, c, h1, rfl⟩ := q.snoc hp (fun r hr => (h' r hr).len) hx.len
      obtain ⟨v, hv, rfl⟩ := (ih h' one).mp h1
      refine ⟨v ++ [c % p], by rw [List.length_append]; exact hv.snoc (Int.emod_nonneg _ (by omega)) (Int.emod_lt_of_pos _ hp), ?_⟩
      rw [lin_snoc hp hv.len hx.len, addL_mod hp hx.len (linL_ok hp _ _).len c, Int.toNat_of_nonneg (Int.emod_nonneg _ (by omega))]
    · rintro ⟨v, hv, rfl⟩
      rw [List.length_append] at hv
      obtain ⟨u, c, rfl, hu, _, _⟩ := RowOk.unsnoc hv
      rw [lin_snoc hp hu.len hx.len]
      exact .add c (((ih h' _).mpr ⟨u, hu, rfl⟩).mono fun x hx => List.mem_append_left _ hx) (List.mem_append_right _ (List.mem_singleton_self _))
theorem zeroR_snoc (m : Nat) : zeroR (m + 1) = zeroR m ++ [0] := by
  unfold zeroR
  rw [List.replicate_succ']
theorem lin_zero (hp : 0 < p) {rows : List (List Int)} : linL p w (zeroR rows.length) rows = zeroR w := row_extZ (linL_ok hp _ _) (zeroR_ok hp w) fun j hj => by
  rw [rz_lin (v := zeroR rows.length) List.length_replicate rfl hj, rz_zero, zs_congr (g := fun _ => 0) fun k _ => by rw [rz_zero]; grind, zs_zero]
/-- none is made of the others: no rows but noughts put them together to noughts -/
theorem indep_iff (R : Rnd p) : ∀ rows : List (List Int), (∀ r ∈ rows, RowOk p w r) → (rankL p w rows = rows.length ↔ ∀ v, RowOk p rows.length v → linL p w v rows = zeroR w → v = zeroR rows.length) := by
  have hp := R.h.pos
  refine snoc_ind (fun _ => ?_) fun xs x ih h => ?_
  · refine ⟨fun _ v hv _ => List.length_eq_zero_iff.mp hv.len, fun _ => rank_nil R⟩
  · have h' : ∀ r ∈ xs, RowOk p w r := fun r hr => h r (List.mem_append_left _ hr)
    have hx := h x (List.mem_append_right _ (List.mem_singleton_self _))
    have ih := ih h'
    have le := rank_le (w := w) R xs
    have hs := inB_sp (x := x) R h'
    rw [rank_snoc R, List.length_append]
    show _ = xs.length + 1 ↔ ∀ v, RowOk p (xs.length + 1) v → _ → v = zeroR (xs.length + 1)
    constructor
    · intro e v hv hl
      have nb : ¬ inB x (spanL p w xs) = true := fun z => by rw [if_pos z] at e; omega
      rw [if_neg nb] at e
      have nb' : ¬ Sp p w xs x := fun z => nb (hs.mpr z)
      obtain ⟨u, c, rfl, hu, c0, c1⟩ := RowOk.unsnoc hv
      rw [lin_snoc hp hu.len hx.len] at hl
      have ol := linL_ok (w := w) hp u xs
      have cz : Zp.mk p c = 0 := Decidable.byContradiction (p := Zp.mk p c = 0) (dec := Classical.propDecidable _) fun z => nb' (by
        have e2 : x = addL p (linL p w u xs) (Zp.val (-(Zp.mk p c)⁻¹)) (zeroR w) := row_extZ hx (addL_ok hp ol.len List.length_replicate) fun j hj => by
          have q : rz p (addL p x c (linL p w u xs)) j = rz p (zeroR w) j := congrArg (fun r => rz p r j) hl
          rw [rz_addL (by rw [hx.len, ol.len]), rz_zero] at q
          rw [rz_addL (by rw [ol.len]; exact List.length_replicate.symm), rz_zero, Zp.mk_val]
          grind
        rw [e2]
        exact Sp.zero.addS hp (fun r hr => (h' r hr).len) _ ((sp_lin hp xs h' _).mpr ⟨u, hu, rfl⟩))
      have c00 : c = 0 := by
        have := Zp.exact (b := 0) cz
        rw [Int.zero_emod, Int.emod_eq_of_lt c0 c1] at this
        exact this
      subst c00
      have : linL p w u xs = zeroR w := by
        rw [← hl]
        exact row_extZ ol (addL_ok hp hx.len ol.len) fun j _ => by
          rw [rz_addL (by rw [hx.len, ol.len]), Zp.mk_zero]
          grind
      rw [ih.mp (by omega) u hu this, zeroR_snoc]
    · intro q
      have e1 : rankL p w xs = xs.length := ih.mpr fun v hv hl => by
        have := q (v ++ [0]) (hv.snoc (by omega) hp) (by
          rw [lin_snoc hp hv.len hx.len, hl]
          exact row_extZ (addL_ok hp hx.len List.length_replicate) (zeroR_ok hp w) fun j _ => by
            rw [rz_addL (by rw [hx.len]; exact List.length_replicate.symm), rz_zero, Zp.mk_zero]
            grind)
        rw [zeroR_snoc] at this
        exact (List.append_inj' this rfl).1
      rw [if_neg, e1]
      intro z
      obtain ⟨v, hv, hl⟩ := (sp_lin hp xs h' x).mp (hs.mp z)
      have h1 : 0 ≤ (-1 : Int) % p := Int.emod_nonneg _ (by omega)
      have := q (v ++ [-1 % p]) (hv.snoc h1 (Int.emod_lt_of_pos _ hp)) (by
        rw [lin_snoc hp hv.len hx.len, hl]
        exact row_extZ (addL_ok hp hx.len hx.len) (zeroR_ok hp w) fun j _ => by
          rw [rz_addL rfl, rz_zero, Zp.mk_mod, Zp.mk_neg, Zp.mk_one]
          grind)
      rw [zeroR_snoc] at this
      have e2 := (List.append_inj' this rfl).2
      have e3 : (-1 : Int) % p = 0 := (List.cons.inj e2).1
      have e4 : Zp.mk p (-1) = Zp.mk p 0 := Zp.sound (by rw [e3, Int.zero_emod])
      have h01 := Zp.zno R
      rw [Zp.mk_neg, Zp.mk_one, Zp.mk_zero] at e4
      exact h01 (by grind)
end
/-! ### the rank by clearing; tables that can be undone -/
section
variable {p : Int} {w m n : Nat}
theorem take_snoc {α : Type} (d : α) {xs : List α} {j : Nat} (h : j < xs.length) : xs.take (j + 1) = xs.take j ++ [xs.getD j d] := by
  rw [List.take_add_one, List.getElem?_eq_getElem h, List.getD_eq_getElem?_getD, List.getElem?_eq_getElem h]
  rfl
/-- a made row has a nought where all have one -/
theorem Sp.nought (hp : 0 < p) {rows : List (List Int)} (h : ∀ r ∈ rows, r.length = w) {c : Nat} (q : ∀ r ∈ rows, rz p r c = 0) {r : List Int} (hr : Sp p w rows r) : rz p r c = 0 := by
  induction hr with
  | zero => exact rz_zero p w c
  | add d ho hx ih =>
    rw [rz_addL (by rw [h _ hx, (ho.ok hp h).len]), ih, q _ hx]
    grind
/-- cleared rows: so many as lead -/
theorem GInv.rank (R : Rnd p) {rows0 : List (List Int)} {st : List (List Int) × List Nat} (h : GInv p w m rows0 w st) : rankL p w st.1 = st.2.length := by
  have hp := R.h.pos
  have ok1 : ∀ j, ∀ r ∈ st.1.take j, RowOk p w r := fun j r hr => h.ok r (List.mem_of_mem_take hr)
  have key : ∀ j, j ≤ m → rankL p w (st.1.take j) = min j st.2.length := by
    intro j
    induction j with
    | zero =>
      intro _
      rw [List.take_zero, rank_nil R, Nat.zero_min]
    | succ j ih =>
      intro hj
      have ih := ih (by omega)
      have hl : j < st.1.length := by rw [h.len]; omega
      rw [take_snoc [] hl, rank_snoc R, ih]
      have hs := inB_sp (x := st.1.getD j []) R (ok1 j)
      by_cases e : j < st.2.length
      · rw [if_neg, Nat.min_eq_left (by omega), Nat.min_eq_left (by omega)]
        intro z
        have := (hs.mp z).nought hp (fun r hr => (ok1 j r hr).len) (c := st.2.getD j 0) fun r hr => by
          obtain ⟨i, hi, rfl⟩ := mem_rowAt hr
          rw [List.length_take] at hi
          have hi1 : i < j := Nat.lt_of_lt_of_le hi (Nat.min_le_left _ _)
          have : rowAt (st.1.take j) i = rowAt st.1 i := by
            unfold rowAt
            rw [List.getD_eq_getElem?_getD, List.getElem?_take, if_pos hi1, List.getD_eq_getElem?_getD]
          rw [this, h.del i j (by omega) e, if_neg (by omega)]
        have d := h.del j j (by omega) e
        rw [if_pos rfl] at d
        have d' : rz p (st.1.getD j []) (st.2.getD j 0) = 1 := d
        rw [this] at d'
        exact Zp.zno R d'
      · rw [if_pos, Nat.min_eq_right (by omega), Nat.min_eq_right (by omega)]
        refine hs.mpr ?_
        have : st.1.getD j [] = zeroR w := row_extZ (h.ok _ (getD_mem [] hl)) (zeroR_ok hp w) fun c hc => by
          rw [rz_zero]
          exact h.low j c (by omega) (by omega) hc
        rw [this]
        exact .zero
  have := key m (Nat.le_refl _)
  rw [List.take_of_length_le (by rw [h.len]; exact Nat.le_refl _)] at this
  rw [this]
  exact Nat.min_eq_right h.km
/-- the program's rank is the law's -/
theorem rankG_eq (R : Rnd p) {rows : List (List Int)} (h : ∀ r ∈ rows, RowOk p w r) : rankG p rows = rankL p w rows := by
  unfold rankG
  split
  · rename_i e
    rw [e, rank_nil R]
  · rename_i e
    have hl : 0 < rows.length := List.length_pos_iff.mpr e
    have hw : (rowAt rows 0).length = w := (h _ (rowAt_mem hl)).len
    rw [hw]
    have g := clear_inv R.h h w
    rw [← g.rank R]
    exact (rank_same R h g.ok g.fro g.to).symm
theorem lin_mv {v : List Int} {t : List (List Int)} (ht : Tab p n t) : linL p n v t = movedL p v t := (moved_lin v ht.len).symm
theorem Tab.rows {t : List (List Int)} (ht : Tab p n t) : ∀ r ∈ t, RowOk p n r := fun _ hr => ht.mem hr
theorem ez_rz (t : List (List Int)) (i j : Nat) : Zp.mk p (ent t i j) = rz p (rowAt t i) j := rfl
theorem moved_zero (hp : 0 < p) {t : List (List Int)} (ht : Tab p n t) : movedL p (zeroR n) t = zeroR n := by
  rw [← lin_mv ht]
  have := lin_zero (w := n) hp (rows := t)
  rw [ht.len] at this
  exact this
/-- behind one another: row by row -/
theorem moved_moved (hp : 0 < p) {v : List Int} {a b : List (List Int)} (hv : v.length = n) (ha : Tab p n a) (hb : Tab p n b) : movedL p (movedL p v a) b = movedL p v (behindL p a b) := by
  have hab := ha.behind hp hb
  have l1 := movedL_ok hp v a
  rw [ha.len] at l1
  have o1 := movedL_ok hp (movedL p v a) b
  rw [hb.len] at o1
  have o2 := movedL_ok hp v (behindL p a b)
  rw [hab.len] at o2
  refine row_extZ o1 o2 fun j hj => ?_
  rw [rz_moved l1.len hb.len hj, rz_moved hv hab.len hj]
  have e1 : ∀ k, k < n → rz p (movedL p v a) k * rz p (rowAt b k) j = zs n fun l => rz p v l * (rz p (rowAt a l) k * rz p (rowAt b k) j) := fun k hk => by
    rw [rz_moved hv ha.len hk, ← zs_mulR]
    exact zs_congr fun l _ => by grind
  have e2 : ∀ l, l < n → rz p v l * rz p (rowAt (behindL p a b) l) j = zs n fun k => rz p v l * (rz p (rowAt a l) k * rz p (rowAt b k) j) := fun l hl => by
    rw [zs_mulL]
    congr 1
    rw [← ez_rz, behind_ent ha hb hl hj, Zp.mk_mod, mk_sm]
    exact zs_congr fun k _ => by rw [Zp.mk_mul]; rfl
  rw [zs_congr e1, zs_congr e2, zs_swap]
theorem moved_unit (R : Rnd p) {v : List Int} (hv : RowOk p n v) : movedL p v (unitL n) = v := by
  have hp := R.h.pos
  have o := movedL_ok hp v (unitL n)
  rw [unitL_len] at o
  refine row_extZ o hv fun j hj => ?_
  rw [rz_moved hv.len (unitL_len n) hj, zs_congr (g := fun k => (if j = k then 1 else 0) * rz p v k) fun k hk => by
    rw [← ez_rz, unit_ent hk hj]
    by_cases e : k = j
    · rw [if_pos e, if_pos e.symm, Zp.mk_one]
      grind
    · rw [if_neg e, if_neg fun z => e z.symm, Zp.mk_zero]
      grind, zs_one, if_pos hj]
/-- full rank: every row is moved to, from one row alone -/
theorem full_surj (R : Rnd p) {t : List (List Int)} (ht : Tab p n t) : rankL p n t = n ↔ ∀ r, RowOk p n r → ∃ v, RowOk p n v ∧ movedL p v t = r := by
  rw [rank_full R ht.rows]
  have := sp_lin R.h.pos t ht.rows
  rw [ht.len] at this
  constructor
  · intro q r hr
    obtain ⟨v, hv, e⟩ := (this r).mp (q r hr)
    exact ⟨v, hv, (lin_mv ht) ▸ e⟩
  · intro q r hr
    obtain ⟨v, hv, e⟩ := q r hr
    exact (this r).mpr ⟨v, hv, (lin_mv ht).symm ▸ e⟩
theorem full_inj (R : Rnd p) {t : List (List Int)} (ht : Tab p n t) : rankL p n t = n ↔ ∀ v, RowOk p n v → movedL p v t = zeroR n → v = zeroR n := by
  have := indep_iff R t ht.rows
  rw [ht.len] at this
  rw [this]
  constructor
  · intro q v hv e
    exact q v hv ((lin_mv ht).symm ▸ e)
  · intro q v hv e
    exact q v hv ((lin_mv ht) ▸ e)
theorem rank_n (R : Rnd p) {t : List (List Int)} (ht : Tab p n t) : rankL p n t ≤ n := rank_wide R ht.rows
/-- can be undone -/
def Inv2 (p : Int) (n : Nat) (a b : List (List Int)) : Prop := behindL p a b = unitL n ∧ behindL p b a = unitL n
theorem row_of_behind {a b : List (List Int)} {i : Nat} (h : i < a.length) : rowAt (behindL p a b) i = movedL p (rowAt a i) b := by
  unfold rowAt behindL
  rw [List.getD_eq_getElem?_getD, List.getElem?_map, List.getElem?_eq_getElem h, List.getD_eq_getElem?_getD, List.getElem?_eq_getElem h]
  rfl
theorem tab_rows_ext {s t : List (List Int)} (h1 : s.length = n) (h2 : t.length = n) (h : ∀ i, i < n → rowAt s i = rowAt t i) : s = t := by
  refine List.ext_getElem? fun i => ?_
  by_cases q : i < n
  · have e := h i q
    unfold rowAt at e
    rw [List.getD_eq_getElem?_getD, List.getD_eq_getElem?_getD, List.getElem?_eq_getElem (by omega), List.getElem?_eq_getElem (by omega)] at e
    rw [List.getElem?_eq_getElem (by omega), List.getElem?_eq_getElem (by omega)]
    exact congrArg some e
  · rw [List.getElem?_eq_none (by omega), List.getElem?_eq_none (by omega)]
/-- undone from one side: rank full -/
theorem full_of_left (R : Rnd p) {a b : List (List Int)} (ha : Tab p n a) (hb : Tab p n b) (h : behindL p b a = unitL n) : rankL p n a = n := by
  have hp := R.h.pos
  refine (full_surj R ha).mpr fun r hr => ?_
  have o := movedL_ok hp r b
  rw [hb.len] at o
  exact ⟨movedL p r b, o, by rw [moved_moved hp hr.len hb ha, h, moved_unit R hr]⟩
theorem full_of_right (R : Rnd p) {a b : List (List Int)} (ha : Tab p n a) (hb : Tab p n b) (h : behindL p a b = unitL n) : rankL p n a = n := by
  have hp := R.h.pos
  refine (full_inj R ha).mpr fun v hv e => ?_
  have := moved_moved hp hv.len ha hb
  rw [e, h, moved_unit R hv, moved_zero hp hb] at this
  exact this.symm
theorem behind_inj (R : Rnd p) {a b c : List (List Int)} (ha : Tab p n a) (hb : Tab p n b) (hc : Tab p n c) (hf : rankL p n c = n) (h : behindL p a c = behindL p b c) : a = b := by
  have hp := R.h.pos
  refine tab_rows_ext ha.len hb.len fun i hi => ?_
  have e1 := row_of_behind (p := p) (a := a) (b := c) (i := i) (by rw [ha.len]; exact hi)
  have e2 := row_of_behind (p := p) (a := b) (b := c) (i := i) (by rw [hb.len]; exact hi)
  have e : movedL p (rowAt a i) c = movedL p (rowAt b i) c := by rw [← e1, ← e2, h]
  have oa := ha.mem (rowAt_mem (rows := a) (i := i) (by rw [ha.len]; exact hi))
  have ob := hb.mem (rowAt_mem (rows := b) (i := i) (by rw [hb.len]; exact hi))
  have od := addL_ok (p := p) (w := n) hp (c := -1) (row := rowAt b i) (one := rowAt a i) ob.len oa.len
  have z : addL p (rowAt b i) (-1) (rowAt a i) = zeroR n := (full_inj R hc).mp hf _ od (by
    have o := movedL_ok hp (addL p (rowAt b i) (-1) (rowAt a i)) c
    rw [hc.len] at o
    refine row_extZ o (zeroR_ok hp n) fun j hj => ?_
    have ej := congrArg (fun r => rz p r j) e
    have ej' : rz p (movedL p (rowAt a i) c) j = rz p (movedL p (rowAt b i) c) j := ej
    rw [rz_moved oa.len hc.len hj, rz_moved ob.len hc.len hj] at ej'
    rw [rz_zero, rz_moved od.len hc.len hj, zs_congr (g := fun k => rz p (rowAt a i) k * rz p (rowAt c k) j + (-1) * (rz p (rowAt b i) k * rz p (rowAt c k) j)) fun k hk => by
      rw [rz_addL (by rw [oa.len, ob.len]), Zp.mk_neg, Zp.mk_one]
      grind, zs_add, zs_mulL, ej']
    grind)
  refine row_extZ oa ob fun j hj => ?_
  have q : rz p (addL p (rowAt b i) (-1) (rowAt a i)) j = rz p (zeroR n) j := congrArg (fun r => rz p r j) z
  rw [rz_addL (by rw [oa.len, ob.len]), rz_zero, Zp.mk_neg, Zp.mk_one] at q
  grind
/-- undone from the left, so from the right -/
theorem inv_swap (R : Rnd p) {a b : List (List Int)} (ha : Tab p n a) (hb : Tab p n b) (h : behindL p b a = unitL n) : behindL p a b = unitL n := by
  have hp := R.h.pos
  have hf := full_of_left R ha hb h
  refine behind_inj R (ha.behind hp hb) (unitL_ok R.h.two n) ha hf ?_
  rw [behind_assoc hp ha hb ha, h, behind_unit R.h.two ha, unit_behind R.h.two ha]
/-- the rows of the unit -/
theorem unit_row {i : Nat} (hi : i < n) (j : Nat) : rz p (rowAt (unitL n) i) j = if i = j then 1 else 0 := by
  by_cases hj : j < n
  · rw [← ez_rz, unit_ent hi hj]
    split <;> rfl
  · rw [if_neg (by omega)]
    refine rz_out ?_
    have : rowAt (unitL n) i ∈ unitL n := rowAt_mem (by rw [unitL_len]; exact hi)
    obtain ⟨k, _, e⟩ := List.mem_map.mp this
    rw [← e, List.length_map, List.length_range]
    omega
/-- full rank: there is one that undoes it -/
theorem full_inv (R : Rnd p) {a : List (List Int)} (ha : Tab p n a) (hf : rankL p n a = n) : ∃ b, Tab p n b ∧ behindL p a b = unitL n ∧ behindL p b a = unitL n := by
  have hp := R.h.pos
  have hu := unitL_ok R.h.two n
  have q := fun i (hi : i < n) => (full_surj R ha).mp hf (rowAt (unitL n) i) (hu.mem (rowAt_mem (by rw [unitL_len]; exact hi)))
  let g : Nat → List Int := fun i => if hi : i < n then Classical.choose (q i hi) else []
  let b := (List.range n).map g
  have gb : ∀ i, i < n → rowAt b i = g i := fun i hi => getD_range _ _ hi
  have gs : ∀ i (hi : i < n), RowOk p n (g i) ∧ movedL p (g i) a = rowAt (unitL n) i := fun i hi => by
    show RowOk p n (if hi : i < n then _ else _) ∧ movedL p (if hi : i < n then _ else _) a = _
    rw [dif_pos hi]
    exact Classical.choose_spec (q i hi)
  have bl : b.length = n := by show ((List.range n).map g).length = n; rw [List.length_map, List.length_range]
  have hb : Tab p n b := ⟨bl, fun r hr => by
    obtain ⟨i, hi, rfl⟩ := mem_rowAt hr
    rw [bl] at hi
    rw [gb i hi]
    exact ⟨(gs i hi).1.len, (gs i hi).1.rest⟩⟩
  have h1 : behindL p b a = unitL n := tab_rows_ext (hb.behind hp ha).len (unitL_len n) fun i hi => by
    rw [row_of_behind (by rw [bl]; exact hi), gb i hi, (gs i hi).2]
  exact ⟨b, hb, inv_swap R ha hb h1, h1⟩
end
/-! ### undone, or a row that is lost -/
def catL (t : List (List Int)) : List (List Int) := (t.zip (unitL t.length)).map fun q => q.1 ++ q.2
/-- what judged tells: the leads, the right halves -/
def judL (p : Int) (t : List (List Int)) : Nat × List (List Int) := ((clearTo p (catL t) t.length).2.length, (clearTo p (catL t) t.length).1.map fun r => r.drop t.length)
section
variable {p : Int} {w m n : Nat}
theorem rz_cat {a b : List Int} (h : a.length = n) (j : Nat) : rz p (a ++ b) j = if j < n then rz p a j else rz p b (j - n) := by
  unfold rz
  rw [List.getD_eq_getElem?_getD, List.getElem?_append, h]
  split
  · rw [← List.getD_eq_getElem?_getD]
  · rw [← List.getD_eq_getElem?_getD]
theorem rz_drop {a : List Int} (j : Nat) : rz p (a.drop n) j = rz p a (n + j) := by
  unfold rz
  rw [List.getD_eq_getElem?_getD, List.getElem?_drop, ← List.getD_eq_getElem?_getD]
theorem cat_len {t : List (List Int)} (ht : t.length = n) : (catL t).length = n := by
  unfold catL
  rw [List.length_map, List.length_zip, unitL_len, ht, Nat.min_self]
theorem cat_at {t : List (List Int)} (ht : t.length = n) {i : Nat} (hi : i < n) : rowAt (catL t) i = rowAt t i ++ rowAt (unitL n) i := by
  have h1 : i < t.length := by omega
  have h2 : i < (unitL t.length).length := by rw [unitL_len]; omega
  unfold rowAt catL
  rw [List.getD_eq_getElem?_getD, List.getElem?_map, List.getElem?_eq_getElem (by rw [List.length_zip]; omega), List.getElem_zip]
  show t[i] ++ (unitL t.length)[i] = _
  rw [← ht, List.getD_eq_getElem?_getD, List.getElem?_eq_getElem h1, List.getD_eq_getElem?_getD, List.getElem?_eq_getElem h2]
  rfl
theorem cat_ok (hp : Round p) {t : List (List Int)} (ht : Tab p n t) : ∀ r ∈ catL t, RowOk p (n + n) r := fun r hr => by
  obtain ⟨i, hi, rfl⟩ := mem_rowAt hr
  rw [cat_len ht.len] at hi
  rw [cat_at ht.len hi]
  have h1 := ht.mem (rowAt_mem (rows := t) (i := i) (by rw [ht.len]; exact hi))
  have h2 := (unitL_ok hp.two n).mem (rowAt_mem (rows := unitL n) (i := i) (by rw [unitL_len]; exact hi))
  exact ⟨by rw [List.length_append, h1.len, h2.len], fun x hx => (List.mem_append.mp hx).elim (h1.rest x) (h2.rest x)⟩
/-- left halves are right halves, moved -/
theorem cat_rel (hp : Round p) {t : List (List Int)} (ht : Tab p n t) {r : List Int} (h : Sp p (n + n) (catL t) r) {j : Nat} (hj : j < n) : rz p r j = zs n fun k => rz p r (n + k) * rz p (rowAt t k) j := by
  have ok := cat_ok hp ht
  induction h with
  | zero => rw [rz_zero, zs_congr (g := fun _ => 0) fun k _ => by rw [rz_zero]; grind, zs_zero]
  | @add one row c ho hr ih =>
    have oo := ho.ok hp.pos fun r hr => (ok r hr).len
    have or := ok _ hr
    have hrow : rz p row j = zs n fun k => rz p row (n + k) * rz p (rowAt t k) j := by
      obtain ⟨i, hi, rfl⟩ := mem_rowAt hr
      rw [cat_len ht.len] at hi
      have h1 := ht.mem (rowAt_mem (rows := t) (i := i) (by rw [ht.len]; exact hi))
      rw [cat_at ht.len hi, rz_cat h1.len, if_pos hj, zs_congr (g := fun k => (if i = k then 1 else 0) * rz p (rowAt t k) j) fun k _ => by
        rw [rz_cat h1.len, if_neg (by omega), show n + k - n = k from by omega, unit_row hi], zs_one, if_pos hi]
    rw [rz_addL (by rw [or.len, oo.len]), ih, hrow, zs_congr (f := fun k => rz p (addL p row c one) (n + k) * rz p (rowAt t k) j) (g := fun k => rz p one (n + k) * rz p (rowAt t k) j + Zp.mk p c * (rz p row (n + k) * rz p (rowAt t k) j)) fun k _ => by
      rw [rz_addL (by rw [or.len, oo.len])]
      grind, zs_add, zs_mulL]
theorem drop_ok {r : List Int} (h : RowOk p (n + n) r) : RowOk p n (r.drop n) := ⟨by rw [List.length_drop, h.len]; omega, fun x hx => h.rest x (List.mem_of_mem_drop hx)⟩
/-- the augmented rows are of full rank -/
theorem cat_rank (R : Rnd p) {t : List (List Int)} (ht : Tab p n t) : rankL p (n + n) (catL t) = n := by
  have hp := R.h.pos
  have ok := cat_ok R.h ht
  have := (indep_iff R (catL t) ok).mpr fun v hv e => by
    rw [cat_len ht.len] at hv ⊢
    refine row_extZ hv (zeroR_ok hp n) fun j hj => ?_
    have q : rz p (linL p (n + n) v (catL t)) (n + j) = rz p (zeroR (n + n)) (n + j) := congrArg (fun r => rz p r (n + j)) e
    rw [rz_zero, rz_lin hv.len (cat_len ht.len) (by omega), zs_congr (g := fun k => (if j = k then 1 else 0) * rz p v k) fun k hk => by
      have h1 := ht.mem (rowAt_mem (rows := t) (i := k) (by rw [ht.len]; exact hk))
      rw [cat_at ht.len hk, rz_cat h1.len, if_neg (by omega), show n + j - n = j from by omega, unit_row hk]
      by_cases e : k = j
      · rw [if_pos e, if_pos e.symm]
        grind
      · rw [if_neg e, if_neg fun z => e z.symm]
        grind, zs_one, if_pos hj] at q
    rw [q, rz_zero]
  rw [cat_len ht.len] at this
  exact this
/-- increasing numbers below n, n of them: all -/
theorem inc_all : ∀ {n : Nat} {ls : List Nat}, ls.Pairwise (· < ·) → (∀ l ∈ ls, l < n) → ls.length = n → ls = List.range n := by
  intro n
  induction n with
  | zero => intro ls _ _ h; exact List.length_eq_zero_iff.mp h
  | succ n ih =>
    intro ls hp hl h
    have ne : ls ≠ [] := fun z => by rw [z] at h; cases h
    have e := (List.dropLast_concat_getLast ne).symm
    generalize ls.dropLast = a at e
    generalize ls.getLast ne = b at e
    subst e
    rw [List.pairwise_append] at hp
    obtain ⟨h1, _, h3⟩ := hp
    have hb := hl b (List.mem_append_right _ (List.mem_singleton_self _))
    have la : a.length = n := by rw [List.length_append] at h; exact Nat.succ.inj h
    have lt : ∀ l ∈ a, l < n := fun l hl => by have := h3 l hl b (List.mem_singleton_self _); omega
    have ea := ih h1 lt la
    subst ea
    rw [List.range_succ]
    congr 2
    cases n with
    | zero => omega
    | succ n => have := h3 n (List.mem_range.mpr (by omega)) b (List.mem_singleton_self _); omega
theorem inc_len : ∀ {n : Nat} {ls : List Nat}, ls.Pairwise (· < ·) → (∀ l ∈ ls, l < n) → ls.length ≤ n := fun {n ls} h q => by
  have nd : ls.Nodup := h.imp fun hab => Nat.ne_of_lt hab
  have := nodup_le (ys := List.range n) nd fun x hx => List.mem_range.mpr (q x hx)
  rw [List.length_range] at this
  exact this
structure JudOk (p : Int) (n : Nat) (t : List (List Int)) (j : Nat × List (List Int)) : Prop where
  le : j.1 ≤ n
  tab : Tab p n j.2
  full : j.1 = n → behindL p t j.2 = unitL n ∧ behindL p j.2 t = unitL n
  lost : j.1 < n → rowAt j.2 (n - 1) ≠ zeroR n ∧ movedL p (rowAt j.2 (n - 1)) t = zeroR n
theorem jud_ok (R : Rnd p) (hn : 1 ≤ n) {t : List (List Int)} (ht : Tab p n t) : JudOk p n t (judL p t) := by
  have hp := R.h.pos
  have ok := cat_ok R.h ht
  have g := clear_inv R.h ok n
  rw [cat_len ht.len] at g
  unfold judL
  rw [ht.len]
  generalize clearTo p (catL t) n = st at g
  obtain ⟨rows, leads⟩ := st
  obtain ⟨len, ok1, to, fro, km, lt, inc, del, low⟩ := g
  simp only at len ok1 to fro km lt inc del low
  show JudOk p n t (leads.length, rows.map fun r => r.drop n)
  have at_ : ∀ i, i < n → rowAt (rows.map fun r => r.drop n) i = (rowAt rows i).drop n := fun i hi => by
    unfold rowAt
    rw [List.getD_eq_getElem?_getD, List.getElem?_map, List.getElem?_eq_getElem (by omega), List.getD_eq_getElem?_getD, List.getElem?_eq_getElem (by omega)]
    rfl
  have hU : Tab p n (rows.map fun r => r.drop n) := ⟨by rw [List.length_map, len], fun r hr => by
    obtain ⟨x, hx, rfl⟩ := List.mem_map.mp hr
    have := drop_ok (ok1 x hx)
    exact ⟨this.len, this.rest⟩⟩
  have mv : ∀ i, i < n → ∀ j, j < n → rz p (movedL p ((rowAt rows i).drop n) t) j = rz p (rowAt rows i) j := fun i hi j hj => by
    have o := ok1 _ (rowAt_mem (rows := rows) (i := i) (by omega))
    rw [rz_moved (drop_ok o).len ht.len hj, cat_rel R.h ht (to _ (rowAt_mem (rows := rows) (i := i) (by omega))) hj]
    exact zs_congr fun k _ => by rw [rz_drop]
  refine ⟨km, hU, fun hk => ?_, fun hk => ?_⟩
  · have hl := inc_all inc lt hk
    have h1 : behindL p (rows.map fun r => r.drop n) t = unitL n := by
      refine tab_rows_ext (hU.behind hp ht).len (unitL_len n) fun i hi => ?_
      have hu := (unitL_ok R.h.two n).mem (rowAt_mem (rows := unitL n) (i := i) (by rw [unitL_len]; exact hi))
      have o := movedL_ok hp ((rowAt rows i).drop n) t
      rw [ht.len] at o
      rw [row_of_behind (by rw [hU.len]; exact hi), at_ i hi]
      refine row_extZ o hu fun j hj => ?_
      rw [mv i hi j hj, unit_row hi]
      have d := del i j hi (by omega)
      rw [hl, List.getD_eq_getElem?_getD, List.getElem?_range hj] at d
      exact d
    exact ⟨inv_swap R ht hU h1, h1⟩
  · rw [at_ _ (by omega)]
    refine ⟨fun z => ?_, ?_⟩
    · -- the last row all 0: the rank would be less
      have hz : rowAt rows (n - 1) = zeroR (n + n) := row_extZ (ok1 _ (rowAt_mem (by omega))) (zeroR_ok hp _) fun j hj => by
        rw [rz_zero]
        by_cases e : j < n
        · exact low (n - 1) j (by omega) (by omega) e
        · have : rz p ((rowAt rows (n - 1)).drop n) (j - n) = 0 := by rw [z, rz_zero]
          rw [rz_drop, show n + (j - n) = j from by omega] at this
          exact this
      have e1 : rankL p (n + n) rows = n := (rank_same R ok ok1 fro to).symm.trans (cat_rank R ht)
      have e2 : rows = rows.take (n - 1) ++ [rowAt rows (n - 1)] := by
        have := take_snoc [] (xs := rows) (j := n - 1) (by omega)
        rw [show n - 1 + 1 = n from by omega, List.take_of_length_le (by omega)] at this
        exact this
      have ok2 : ∀ r ∈ rows.take (n - 1), RowOk p (n + n) r := fun r hr => ok1 r (List.mem_of_mem_take hr)
      have e3 := rank_snoc (w := n + n) R (rows.take (n - 1)) (rowAt rows (n - 1))
      rw [← e2, if_pos ((inB_sp R ok2).mpr (by rw [hz]; exact .zero)), e1] at e3
      have := rank_le (w := n + n) R (rows.take (n - 1))
      rw [List.length_take] at this
      omega
    · have o := movedL_ok hp ((rowAt rows (n - 1)).drop n) t
      rw [ht.len] at o
      refine row_extZ o (zeroR_ok hp n) fun j hj => ?_
      rw [mv _ (by omega) j hj, rz_zero]
      exact low (n - 1) j (by omega) (by omega) hj
/-- the leads are as many as the rank -/
theorem jud_rank (R : Rnd p) (hn : 1 ≤ n) {t : List (List Int)} (ht : Tab p n t) : (judL p t).1 = n ↔ rankL p n t = n := by
  have j := jud_ok R hn ht
  constructor
  · intro e
    exact full_of_left R ht j.tab (j.full e).2
  · intro e
    refine Decidable.byContradiction fun z => ?_
    have q := j.lost (by have := j.le; omega)
    exact q.1 ((full_inj R ht).mp e _ (j.tab.mem (rowAt_mem (by rw [j.tab.len]; omega))) q.2)
end
/-! ### a table turned again and again -/
/-- a table's rest, in the field -/
def ez (p : Int) (t : List (List Int)) (i j : Nat) : Zp p := rz p (rowAt t i) j
section
variable {p : Int} {n : Nat}
theorem ez_behind {a b : List (List Int)} (ha : Tab p n a) (hb : Tab p n b) {i j : Nat} (hi : i < n) (hj : j < n) : ez p (behindL p a b) i j = zs n fun k => ez p a i k * ez p b k j := by
  show Zp.mk p (ent (behindL p a b) i j) = _
  rw [behind_ent ha hb hi hj, Zp.mk_mod, mk_sm]
  exact zs_congr fun k _ => by rw [Zp.mk_mul]; rfl
theorem ez_unit {i j : Nat} (hi : i < n) : ez p (unitL n) i j = if i = j then 1 else 0 := unit_row hi j
theorem tab_extZ {a b : List (List Int)} (ha : Tab p n a) (hb : Tab p n b) (h : ∀ i j, i < n → j < n → ez p a i j = ez p b i j) : a = b :=
  tab_rows_ext ha.len hb.len fun i hi => row_extZ (ha.mem (rowAt_mem (by rw [ha.len]; exact hi))) (hb.mem (rowAt_mem (by rw [hb.len]; exact hi))) fun j hj => h i j hi hj
theorem ez_pw0 {t : List (List Int)} {i j : Nat} (hi : i < n) : ez p (pwL p n t 0) i j = if i = j then 1 else 0 := ez_unit hi
theorem ez_pw1 (R : Rnd p) {t : List (List Int)} (ht : Tab p n t) {i j : Nat} : ez p (pwL p n t 1) i j = ez p t i j := by rw [pw_one R.h.two ht]
theorem ez_pwS (R : Rnd p) {t : List (List Int)} (ht : Tab p n t) (m : Nat) {i j : Nat} (hi : i < n) (hj : j < n) : ez p (pwL p n t (m + 1)) i j = zs n fun k => ez p (pwL p n t m) i k * ez p t k j := ez_behind (pw_ok R.h.two ht m) ht hi hj
def own2 (p : Int) (t : List (List Int)) : Nat → Zp p
  | 0 => -(ez p t 0 0 * ez p t 1 1 - ez p t 0 1 * ez p t 1 0)
  | _ => ez p t 0 0 + ez p t 1 1
def own3 (p : Int) (t : List (List Int)) : Nat → Zp p
  | 0 => ez p t 0 0 * (ez p t 1 1 * ez p t 2 2 - ez p t 1 2 * ez p t 2 1) - ez p t 0 1 * (ez p t 1 0 * ez p t 2 2 - ez p t 1 2 * ez p t 2 0) + ez p t 0 2 * (ez p t 1 0 * ez p t 2 1 - ez p t 1 1 * ez p t 2 0)
  | 1 => -((ez p t 0 0 * ez p t 1 1 - ez p t 0 1 * ez p t 1 0) + (ez p t 0 0 * ez p t 2 2 - ez p t 0 2 * ez p t 2 0) + (ez p t 1 1 * ez p t 2 2 - ez p t 1 2 * ez p t 2 1))
  | _ => ez p t 0 0 + ez p t 1 1 + ez p t 2 2
/-- the rests of the own rule, the last one less -/
def ownC (p : Int) (n : Nat) (t : List (List Int)) : Nat → Zp p := match n with
  | 1 => fun _ => ez p t 0 0
  | 2 => own2 p t
  | _ => own3 p t
theorem own_zero (R : Rnd p) {t : List (List Int)} (ht : Tab p n t) (h1 : 1 ≤ n) (h3 : n ≤ 3) : ∀ i j, i < n → j < n → ez p (pwL p n t n) i j = zs n fun k => ownC p n t k * ez p (pwL p n t k) i j := by
  have : n = 1 ∨ n = 2 ∨ n = 3 := by omega
  rcases this with e | e | e <;> subst e
  · intro i j hi hj
    have : i = 0 := by omega
    have : j = 0 := by omega
    subst_vars
    rw [ez_pw1 R ht]
    show _ = 0 + ez p t 0 0 * ez p (pwL p 1 t 0) 0 0
    rw [ez_pw0 (by omega), if_pos rfl]
    grind
  · intro i j hi hj
    show _ = 0 + -(ez p t 0 0 * ez p t 1 1 - ez p t 0 1 * ez p t 1 0) * ez p (pwL p 2 t 0) i j + (ez p t 0 0 + ez p t 1 1) * ez p (pwL p 2 t 1) i j
    rw [ez_pwS R ht 1 hi hj]
    show 0 + ez p (pwL p 2 t 1) i 0 * ez p t 0 j + ez p (pwL p 2 t 1) i 1 * ez p t 1 j = _
    rw [ez_pw0 hi, ez_pw1 R ht, ez_pw1 R ht, ez_pw1 R ht]
    have hi' : i = 0 ∨ i = 1 := by omega
    have hj' : j = 0 ∨ j = 1 := by omega
    rcases hi' with rfl | rfl <;> rcases hj' with rfl | rfl <;> simp only [reduceIte, Nat.zero_ne_one, Nat.one_ne_zero] <;> grind
  · intro i j hi hj
    have e2 : ∀ i j, i < 3 → j < 3 → ez p (pwL p 3 t 2) i j = ez p t i 0 * ez p t 0 j + ez p t i 1 * ez p t 1 j + ez p t i 2 * ez p t 2 j := fun i j hi hj => by
      rw [ez_pwS R ht 1 hi hj]
      show 0 + ez p (pwL p 3 t 1) i 0 * ez p t 0 j + ez p (pwL p 3 t 1) i 1 * ez p t 1 j + ez p (pwL p 3 t 1) i 2 * ez p t 2 j = _
      rw [ez_pw1 R ht, ez_pw1 R ht, ez_pw1 R ht]
      grind
    show _ = 0 + (ez p t 0 0 * (ez p t 1 1 * ez p t 2 2 - ez p t 1 2 * ez p t 2 1) - ez p t 0 1 * (ez p t 1 0 * ez p t 2 2 - ez p t 1 2 * ez p t 2 0) + ez p t 0 2 * (ez p t 1 0 * ez p t 2 1 - ez p t 1 1 * ez p t 2 0)) * ez p (pwL p 3 t 0) i j +
      (-((ez p t 0 0 * ez p t 1 1 - ez p t 0 1 * ez p t 1 0) + (ez p t 0 0 * ez p t 2 2 - ez p t 0 2 * ez p t 2 0) + (ez p t 1 1 * ez p t 2 2 - ez p t 1 2 * ez p t 2 1))) * ez p (pwL p 3 t 1) i j + (ez p t 0 0 + ez p t 1 1 + ez p t 2 2) * ez p (pwL p 3 t 2) i j
    rw [ez_pwS R ht 2 hi hj]
    show 0 + ez p (pwL p 3 t 2) i 0 * ez p t 0 j + ez p (pwL p 3 t 2) i 1 * ez p t 1 j + ez p (pwL p 3 t 2) i 2 * ez p t 2 j = _
    rw [ez_pw0 hi, ez_pw1 R ht, e2 i 0 hi (by omega), e2 i 1 hi (by omega), e2 i 2 hi (by omega), e2 i j hi hj]
    clear e2
    have hi' : i = 0 ∨ i = 1 ∨ i = 2 := by omega
    have hj' : j = 0 ∨ j = 1 ∨ j = 2 := by omega
    rcases hi' with rfl | rfl | rfl <;> rcases hj' with rfl | rfl | rfl <;> simp only [reduceIte, Nat.reduceEqDiff] <;> grind
/-- each table is all 0 at its own rule -/
theorem own_ex (R : Rnd p) {t : List (List Int)} (ht : Tab p n t) (h1 : 1 ≤ n) (h3 : n ≤ 3) : ∃ c : Nat → Zp p, ∀ i j, i < n → j < n → ez p (pwL p n t n) i j = zs n fun k => c k * ez p (pwL p n t k) i j := ⟨_, own_zero R ht h1 h3⟩
/-- each turn is put together of the first ones -/
theorem pw_comb (R : Rnd p) {t : List (List Int)} (ht : Tab p n t) (h1 : 1 ≤ n) (h3 : n ≤ 3) : ∀ m, ∃ d : Nat → Zp p, ∀ i j, i < n → j < n → ez p (pwL p n t m) i j = zs n fun k => d k * ez p (pwL p n t k) i j := by
  obtain ⟨c, hc⟩ := own_ex R ht h1 h3
  have base : ∀ m, m < n → ∃ d : Nat → Zp p, ∀ i j, i < n → j < n → ez p (pwL p n t m) i j = zs n fun k => d k * ez p (pwL p n t k) i j := fun m hm => ⟨fun k => if m = k then 1 else 0, fun i j _ _ => by rw [zs_one, if_pos hm]⟩
  intro m
  induction m with
  | zero => exact base 0 (by omega)
  | succ m ih =>
    obtain ⟨d, hd⟩ := ih
    -- the next turn of each of the first ones
    have nx : ∀ k, ∃ f : Nat → Zp p, k < n → ∀ i j, i < n → j < n → ez p (pwL p n t (k + 1)) i j = zs n fun l => f l * ez p (pwL p n t l) i j := fun k => by
      by_cases e : k + 1 < n
      · obtain ⟨f, hf⟩ := base (k + 1) e
        exact ⟨f, fun _ => hf⟩
      · refine ⟨c, fun hk => ?_⟩
        have : k + 1 = n := by omega
        rw [this]
        exact hc
    refine ⟨fun l => zs n fun k => d k * (Classical.choose (nx k)) l, fun i j hi hj => ?_⟩
    rw [ez_pwS R ht m hi hj, zs_congr (g := fun k => zs n fun l => d l * (ez p (pwL p n t l) i k * ez p t k j)) fun k hk => by
      rw [hd i k hi hk, ← zs_mulR]
      exact zs_congr fun l _ => by grind, zs_swap]
    have e1 : ∀ l, l < n → (zs n fun k => d l * (ez p (pwL p n t l) i k * ez p t k j)) = zs n fun q => (d l * (Classical.choose (nx l)) q) * ez p (pwL p n t q) i j := fun l hl => by
      rw [zs_mulL, ← ez_pwS R ht l hi hj, Classical.choose_spec (nx l) hl i j hi hj, ← zs_mulL]
      exact zs_congr fun q _ => by grind
    rw [zs_congr e1, zs_swap]
    exact zs_congr fun q _ => (zs_mulR n _ _)
theorem val_ok (R : Rnd p) (z : Zp p) : 0 ≤ Zp.val z ∧ Zp.val z < p := by
  have h := Zp.val_mod z
  have hp := R.h.pos
  exact ⟨by rw [← h]; exact Int.emod_nonneg _ (by omega), by rw [← h]; exact Int.emod_lt_of_pos _ hp⟩
/-- unlike turns are few -/
theorem pw_few (R : Rnd p) {t : List (List Int)} (ht : Tab p n t) (h1 : 1 ≤ n) (h3 : n ≤ 3) {N : Nat} (h : ∀ i j, i < j → j < N → pwL p n t i ≠ pwL p n t j) : N ≤ p.toNat ^ n := by
  let g : Nat → List Int := fun m => (List.range n).map fun k => Zp.val ((Classical.choose (pw_comb R ht h1 h3 m)) k)
  have gk : ∀ m k, k < n → rz p (g m) k = (Classical.choose (pw_comb R ht h1 h3 m)) k := fun m k hk => by
    show Zp.mk p (((List.range n).map _).getD k 0) = _
    rw [getD_range _ _ hk, Zp.mk_val]
  have inj : ∀ a b, g a = g b → pwL p n t a = pwL p n t b := fun a b e => by
    refine tab_extZ (pw_ok R.h.two ht a) (pw_ok R.h.two ht b) fun i j hi hj => ?_
    rw [Classical.choose_spec (pw_comb R ht h1 h3 a) i j hi hj, Classical.choose_spec (pw_comb R ht h1 h3 b) i j hi hj]
    exact zs_congr fun k hk => by rw [← gk a k hk, ← gk b k hk, e]
  have nd : ((List.range N).map g).Nodup := nodup_map List.nodup_range fun a ha b hb e => by
    have e2 := inj a b e
    have ha := List.mem_range.mp ha
    have hb := List.mem_range.mp hb
    rcases Nat.lt_trichotomy a b with z | z | z
    · exact absurd e2 (h a b z hb)
    · exact z
    · exact absurd e2.symm (h b a z ha)
  have := nodup_le nd (ys := rowsA p n) fun x hx => by
    obtain ⟨m, _, rfl⟩ := List.mem_map.mp hx
    refine rowsA_ok.mpr ⟨by show ((List.range n).map _).length = n; rw [List.length_map, List.length_range], fun y hy => ?_⟩
    obtain ⟨k, _, rfl⟩ := List.mem_map.mp hy
    exact val_ok R _
  rw [List.length_map, List.length_range, rowsA_len] at this
  exact this
end
/-! ### when it comes again -/
/-- the turns so far -/
def turnsL (p : Int) (n : Nat) (t : List (List Int)) (m : Nat) : List Tb := (List.range m).map (pwL p n t)
def perM (p : Int) (n : Nat) (t : List (List Int)) : Nat → Nat → Nat
  | 0, m => m
  | g + 1, m => if inB (pwL p n t m) (turnsL p n t m) then m else perM p n t g (m + 1)
/-- how many unlike turns -/
def perL (p : Int) (n : Nat) (t : List (List Int)) : Nat := perM p n t (p.toNat ^ n + 1) 0
def idxL (x : Tb) : List Tb → Nat
  | [] => 0
  | y :: ys => if y = x then 0 else idxL x ys + 1
/-- behind how many it comes again -/
def firL (p : Int) (n : Nat) (t : List (List Int)) : Nat := idxL (pwL p n t (perL p n t)) (turnsL p n t (perL p n t))
theorem idxL_ok {x : Tb} : ∀ {ys : List Tb}, x ∈ ys → idxL x ys < ys.length ∧ ys[idxL x ys]? = some x ∧ ∀ j, j < idxL x ys → ys[j]? ≠ some x
  | [], h => by cases h
  | y :: ys, h => by
    unfold idxL
    by_cases e : y = x
    · rw [if_pos e]
      exact ⟨Nat.succ_pos _, by rw [e]; rfl, fun j hj => absurd hj (Nat.not_lt_zero j)⟩
    · rw [if_neg e]
      have h' : x ∈ ys := (List.mem_cons.mp h).elim (fun z => absurd z.symm e) id
      obtain ⟨i1, i2, i3⟩ := idxL_ok h'
      refine ⟨Nat.succ_lt_succ i1, i2, fun j hj => ?_⟩
      cases j with
      | zero => exact fun z => e (Option.some.inj z)
      | succ j => exact i3 j (by omega)
theorem turns_get {p : Int} {n : Nat} {t : List (List Int)} {m j : Nat} : (turnsL p n t m)[j]? = if j < m then some (pwL p n t j) else none := by
  unfold turnsL
  rw [List.getElem?_map]
  by_cases h : j < m
  · rw [List.getElem?_range h, if_pos h]
    rfl
  · rw [List.getElem?_eq_none (by rw [List.length_range]; omega), if_neg h]
    rfl
theorem turns_succ (p : Int) (n : Nat) (t : List (List Int)) (m : Nat) : turnsL p n t (m + 1) = turnsL p n t m ++ [pwL p n t m] := by
  unfold turnsL
  rw [List.range_succ, List.map_append]
  rfl
theorem turns_len (p : Int) (n : Nat) (t : List (List Int)) (m : Nat) : (turnsL p n t m).length = m := by
  unfold turnsL
  rw [List.length_map, List.length_range]
section
variable {p : Int} {n : Nat}
/-- the turns up to m are unlike -/
def Unl (p : Int) (n : Nat) (t : List (List Int)) (m : Nat) : Prop := ∀ i j, i < j → j < m → pwL p n t i ≠ pwL p n t j
theorem Unl.succ {t : List (List Int)} {m : Nat} (h : Unl p n t m) (q : inB (pwL p n t m) (turnsL p n t m) = false) : Unl p n t (m + 1) := fun i j hij hj e => by
  by_cases z : j < m
  · exact h i j hij z e
  · have : j = m := by omega
    subst this
    exact inB_no.mp q (e ▸ List.mem_map.mpr ⟨i, List.mem_range.mpr hij, rfl⟩)
theorem perM_ok (R : Rnd p) {t : List (List Int)} (ht : Tab p n t) (h1 : 1 ≤ n) (h3 : n ≤ 3) : ∀ (g m : Nat), Unl p n t m → p.toNat ^ n < g + m → Unl p n t (perM p n t g m) ∧ inB (pwL p n t (perM p n t g m)) (turnsL p n t (perM p n t g m)) = true
  | 0, m, h, hg => by
    have := pw_few R ht h1 h3 h
    omega
  | g + 1, m, h, hg => by
    unfold perM
    cases q : inB (pwL p n t m) (turnsL p n t m) with
    | true =>
      rw [if_pos rfl]
      exact ⟨h, q⟩
    | false =>
      rw [if_neg Bool.false_ne_true]
      exact perM_ok R ht h1 h3 g (m + 1) (h.succ q) (by omega)
structure PerOk (p : Int) (n : Nat) (t : List (List Int)) (N f : Nat) : Prop where
  unl : Unl p n t N
  lt : f < N
  eq : pwL p n t N = pwL p n t f
  few : N ≤ p.toNat ^ n
theorem per_ok (R : Rnd p) {t : List (List Int)} (ht : Tab p n t) (h1 : 1 ≤ n) (h3 : n ≤ 3) : PerOk p n t (perL p n t) (firL p n t) := by
  obtain ⟨u, q⟩ := perM_ok R ht h1 h3 (p.toNat ^ n + 1) 0 (fun i j _ h => absurd h (Nat.not_lt_zero j)) (by omega)
  change Unl p n t (perL p n t) at u
  change inB (pwL p n t (perL p n t)) (turnsL p n t (perL p n t)) = true at q
  obtain ⟨i1, i2, _⟩ := idxL_ok (inB_iff.mp q)
  rw [turns_len] at i1
  rw [turns_get, if_pos i1] at i2
  exact ⟨u, i1, (Option.some.inj i2).symm, pw_few R ht h1 h3 u⟩
theorem PerOk.uniq {t : List (List Int)} {N f N' f' : Nat} (h : PerOk p n t N f) (h' : PerOk p n t N' f') : N = N' ∧ f = f' := by
  have key : ∀ {N f N' f' : Nat}, PerOk p n t N f → PerOk p n t N' f' → ¬ N < N' := fun {N f N' f'} h h' z => h'.unl f N h.lt z h.eq.symm
  have e : N = N' := by
    have := key h h'
    have := key h' h
    omega
  subst e
  refine ⟨rfl, Decidable.byContradiction fun z => ?_⟩
  have e2 : pwL p n t f = pwL p n t f' := by rw [← h.eq, h'.eq]
  rcases Nat.lt_or_gt_of_ne z with w | w
  · exact h.unl f f' w h'.lt e2
  · exact h.unl f' f w h.lt e2.symm
/-- a table that can be undone comes back to the unit -/
theorem PerOk.back (R : Rnd p) {t : List (List Int)} (ht : Tab p n t) {N f : Nat} (h : PerOk p n t N f) (hf : rankL p n t = n) : f = 0 := by
  refine Decidable.byContradiction fun z => ?_
  obtain ⟨f', rfl⟩ : ∃ f', f = f' + 1 := ⟨f - 1, by omega⟩
  have hl := h.lt
  obtain ⟨N', rfl⟩ : ∃ N', N = N' + 1 := ⟨N - 1, by omega⟩
  have e : pwL p n t N' = pwL p n t f' := behind_inj R (pw_ok R.h.two ht N') (pw_ok R.h.two ht f') ht hf h.eq
  exact h.unl f' N' (by omega) (by omega) e.symm
theorem pw_comm1 (R : Rnd p) {t : List (List Int)} (ht : Tab p n t) (m : Nat) : behindL p t (pwL p n t m) = pwL p n t (m + 1) := by
  have := pw_add R.h.two ht 1 m
  rw [pw_one R.h.two ht] at this
  rw [← this, Nat.add_comm]
/-- what comes back to the unit can be undone -/
theorem PerOk.full (R : Rnd p) {t : List (List Int)} (ht : Tab p n t) {N : Nat} (h : PerOk p n t N 0) : rankL p n t = n := by
  have hl := h.lt
  obtain ⟨N', rfl⟩ : ∃ N', N = N' + 1 := ⟨N - 1, by omega⟩
  exact full_of_left R ht (pw_ok R.h.two ht N') h.eq
theorem pw_mul (R : Rnd p) {t : List (List Int)} (ht : Tab p n t) {N : Nat} (h : pwL p n t N = unitL n) : ∀ k, pwL p n t (N * k) = unitL n
  | 0 => rfl
  | k + 1 => by rw [Nat.mul_succ, pw_add R.h.two ht, pw_mul R ht h k, h, unit_behind R.h.two (unitL_ok R.h.two n)]
theorem pw_rest (R : Rnd p) {t : List (List Int)} (ht : Tab p n t) {N : Nat} (h : pwL p n t N = unitL n) (m : Nat) : pwL p n t m = pwL p n t (m % N) := by
  have := pw_add R.h.two ht (N * (m / N)) (m % N)
  rw [Nat.div_add_mod, pw_mul R ht h, unit_behind R.h.two (pw_ok R.h.two ht _)] at this
  exact this
/-- the unit comes at the multiples alone -/
theorem PerOk.dvd (R : Rnd p) {t : List (List Int)} (ht : Tab p n t) {N : Nat} (h : PerOk p n t N 0) (m : Nat) : pwL p n t m = unitL n ↔ N ∣ m := by
  constructor
  · intro e
    rw [pw_rest R ht h.eq] at e
    refine Nat.dvd_of_mod_eq_zero (Decidable.byContradiction fun z => ?_)
    exact h.unl 0 (m % N) (by omega) (Nat.mod_lt _ h.lt) e.symm
  · rintro ⟨k, rfl⟩
    exact pw_mul R ht h.eq k
end
/-! ### the primes that go into a number -/
def primeB (q : Nat) : Bool := (List.range (q - 2)).all fun i => !decide (q % (2 + i) = 0)
def primesL' (m : Nat) : List Nat := ((List.range (m - 1)).map (2 + ·)).filter fun q => decide (m % q = 0) && primeB q
theorem primeB_iff {q : Nat} : primeB q = true ↔ ∀ d, 2 ≤ d → d < q → ¬ d ∣ q := by
  unfold primeB
  rw [List.all_eq_true]
  constructor
  · intro h d h1 h2 hd
    have := h (d - 2) (List.mem_range.mpr (by omega))
    rw [show 2 + (d - 2) = d from by omega, decide_eq_true (Nat.mod_eq_zero_of_dvd hd)] at this
    cases this
  · intro h i hi
    have hi := List.mem_range.mp hi
    rw [decide_eq_false fun z => h (2 + i) (by omega) (by omega) (Nat.dvd_of_mod_eq_zero z)]
    rfl
/-- some prime goes into each number from 2 on -/
theorem prime_dvd : ∀ (k m : Nat), m ≤ k → 2 ≤ m → ∃ q, 2 ≤ q ∧ q ∣ m ∧ primeB q = true
  | 0, m, h, h2 => by omega
  | k + 1, m, h, h2 => by
    by_cases e : primeB m = true
    · exact ⟨m, h2, Nat.dvd_refl m, e⟩
    · have : ∃ d, 2 ≤ d ∧ d < m ∧ d ∣ m := Decidable.byContradiction (p := ∃ d, 2 ≤ d ∧ d < m ∧ d ∣ m) (dec := Classical.propDecidable _) fun z => e (primeB_iff.mpr fun d a b c => z ⟨d, a, b, c⟩)
      obtain ⟨d, a, b, c⟩ := this
      obtain ⟨q, q1, q2, q3⟩ := prime_dvd k d (by omega) a
      exact ⟨q, q1, Nat.dvd_trans q2 c, q3⟩
theorem primes_mem {m q : Nat} (hm : 1 ≤ m) : q ∈ primesL' m ↔ 2 ≤ q ∧ q ∣ m ∧ primeB q = true := by
  unfold primesL'
  rw [List.mem_filter, List.mem_map, Bool.and_eq_true, decide_eq_true_eq]
  constructor
  · rintro ⟨⟨i, hi, rfl⟩, h1, h2⟩
    exact ⟨by omega, Nat.dvd_of_mod_eq_zero h1, h2⟩
  · rintro ⟨h1, h2, h3⟩
    have := Nat.le_of_dvd hm h2
    exact ⟨⟨q - 2, List.mem_range.mpr (by omega), by omega⟩, Nat.mod_eq_zero_of_dvd h2, h3⟩
/-- no fewer times do: shown by the primes -/
theorem least_by_primes {N m : Nat} (hN : 1 ≤ N) (hm : 1 ≤ m) (h : N ∣ m) (q : ∀ r ∈ primesL' m, ¬ N ∣ m / r) : N = m := by
  obtain ⟨k, rfl⟩ := h
  by_cases e : k = 1
  · rw [e, Nat.mul_one]
  · have hk : 2 ≤ k := by
      rcases k with _ | _ | k
      · omega
      · omega
      · omega
    obtain ⟨r, r1, r2, r3⟩ := prime_dvd k k (Nat.le_refl _) hk
    obtain ⟨l, rfl⟩ := r2
    refine absurd ?_ (q r ((primes_mem hm).mpr ⟨r1, ⟨N * l, by rw [Nat.mul_left_comm]⟩, r3⟩))
    rw [Nat.mul_left_comm, Nat.mul_div_cancel_left _ (by omega)]
    exact ⟨l, rfl⟩
/-- the primes of m below q -/
def belowL (m q : Nat) : List Nat := ((List.range (q - 2)).map (2 + ·)).filter fun q => decide (m % q = 0) && primeB q
theorem below_succ {m q : Nat} (hq : 2 ≤ q) : belowL m (q + 1) = if (decide (m % q = 0) && primeB q) = true then belowL m q ++ [q] else belowL m q := by
  unfold belowL
  rw [show q + 1 - 2 = q - 2 + 1 from by omega, List.range_succ, List.map_append, List.filter_append]
  show _ ++ List.filter _ [2 + (q - 2)] = _
  rw [show 2 + (q - 2) = q from by omega]
  by_cases h : (decide (m % q = 0) && primeB q) = true
  · rw [if_pos h, List.filter_cons_of_pos (p := fun q => decide (m % q = 0) && primeB q) h]
    rfl
  · rw [if_neg h, List.filter_cons_of_neg (p := fun q => decide (m % q = 0) && primeB q) h]
    simp
theorem below_more {m q : Nat} (hq : 2 ≤ q) (h : ∀ r, q ≤ r → primeB r = true → ¬ r ∣ m) : ∀ k, belowL m (q + k) = belowL m q
  | 0 => rfl
  | k + 1 => by
    rw [← Nat.add_assoc, below_succ (by omega), below_more hq h k, if_neg]
    rw [Bool.and_eq_true, decide_eq_true_eq]
    exact fun z => h (q + k) (by omega) z.2 (Nat.dvd_of_mod_eq_zero z.1)
/-- what stands while the primes are sought -/
structure PI (m num q : Nat) : Prop where
  pos : 1 ≤ num
  two : 2 ≤ q
  dvd : num ∣ m
  none : ∀ d, 2 ≤ d → d < q → ¬ d ∣ num
  rest : ∀ r, q ≤ r → primeB r = true → (r ∣ m ↔ r ∣ num)
theorem PI.start {m : Nat} (h : 1 ≤ m) : PI m m 2 := ⟨h, Nat.le_refl 2, Nat.dvd_refl m, fun d h1 h2 => by omega, fun _ _ _ => Iff.rfl⟩
theorem PI.done {m num q : Nat} (hm : 1 ≤ m) (h : PI m num q) (h1 : num ≤ 1) : belowL m q = primesL' m := by
  have e : num = 1 := by have := h.pos; omega
  subst e
  have h2 := h.two
  have no : ∀ r, q ≤ r → primeB r = true → ¬ r ∣ m := fun r hr hp z => by
    have := Nat.le_of_dvd (by omega) ((h.rest r hr hp).mp z)
    omega
  have e1 : primesL' m = belowL m (m + 1) := by
    unfold primesL' belowL
    rw [show m + 1 - 2 = m - 1 from by omega]
  have no2 : ∀ r, m + 1 ≤ r → primeB r = true → ¬ r ∣ m := fun r hr _ z => by
    have := Nat.le_of_dvd (by omega) z
    omega
  rw [e1]
  by_cases c : q ≤ m + 1
  · rw [show m + 1 = q + (m + 1 - q) from by omega, below_more h2 no]
  · rw [show q = m + 1 + (q - (m + 1)) from by omega, below_more (by omega) no2]
theorem PI.le {m num q : Nat} (hm : 1 ≤ m) (h : PI m num q) (h1 : 1 < num) : q ≤ num ∧ num ≤ m := by
  refine ⟨Nat.le_of_not_lt fun z => h.none num (by omega) z (Nat.dvd_refl num), Nat.le_of_dvd (by omega) h.dvd⟩
theorem PI.prime {m num q : Nat} (h : PI m num q) (d : q ∣ num) : primeB q = true := primeB_iff.mpr fun e h1 h2 h3 => h.none e h1 h2 (Nat.dvd_trans h3 d)
theorem PI.miss {m num q : Nat} (h : PI m num q) (d : ¬ q ∣ num) : PI m num (q + 1) ∧ belowL m (q + 1) = belowL m q := by
  have h2 := h.two
  refine ⟨⟨h.pos, by omega, h.dvd, fun e h1 h2 h3 => ?_, fun r hr hp => h.rest r (by omega) hp⟩, ?_⟩
  · by_cases c : e < q
    · exact h.none e h1 c h3
    · have : e = q := by omega
      exact d (this ▸ h3)
  · rw [below_succ h2, if_neg]
    rw [Bool.and_eq_true, decide_eq_true_eq]
    exact fun z => d ((h.rest q (Nat.le_refl q) z.2).mp (Nat.dvd_of_mod_eq_zero z.1))
theorem coprime_of {r q : Nat} (h1 : 2 ≤ r) (h2 : 2 ≤ q) (hr : primeB r = true) (hq : primeB q = true) (ne : r ≠ q) : Nat.gcd r q = 1 := by
  have hpos : 0 < Nat.gcd r q := Nat.gcd_pos_of_pos_left q (by omega)
  refine Decidable.byContradiction fun z => ?_
  have g1 := Nat.gcd_dvd_left r q
  have g2 := Nat.gcd_dvd_right r q
  have l1 := Nat.le_of_dvd (by omega) g1
  have l2 := Nat.le_of_dvd (by omega) g2
  have e1 : Nat.gcd r q = r := Decidable.byContradiction fun w => primeB_iff.mp hr _ (by omega) (by omega) g1
  have e2 : Nat.gcd r q = q := Decidable.byContradiction fun w => primeB_iff.mp hq _ (by omega) (by omega) g2
  omega
/-- a prime is taken out -/
structure OutI (q num0 num : Nat) : Prop where
  pos : 1 ≤ num
  dvd : num ∣ num0
  same : ∀ r, 2 ≤ r → primeB r = true → r ≠ q → (r ∣ num0 ↔ r ∣ num)
theorem OutI.start {q num : Nat} (h : 1 ≤ num) : OutI q num num := ⟨h, Nat.dvd_refl _, fun _ _ _ _ => Iff.rfl⟩
theorem OutI.div {q num0 num : Nat} (h : OutI q num0 num) (h2 : 2 ≤ q) (hq : primeB q = true) (d : q ∣ num) : OutI q num0 (num / q) ∧ num / q < num := by
  obtain ⟨k, rfl⟩ := d
  have hp := h.pos
  have hk : 1 ≤ k := by
    rcases k with _ | k
    · omega
    · omega
  rw [Nat.mul_div_cancel_left _ (by omega)]
  refine ⟨⟨hk, Nat.dvd_trans ⟨q, Nat.mul_comm q k⟩ h.dvd, fun r h3 hr ne => ?_⟩, ?_⟩
  · rw [h.same r h3 hr ne]
    refine ⟨fun z => ?_, fun z => Nat.dvd_trans z ⟨q, Nat.mul_comm q k⟩⟩
    exact Nat.Coprime.dvd_of_dvd_mul_left (show Nat.Coprime r q from coprime_of h3 h2 hr hq ne) z
  · have := Nat.mul_le_mul_right k h2
    omega
theorem PI.hit {m num q num' : Nat} (h : PI m num q) (d : q ∣ num) (o : OutI q num num') (d' : ¬ q ∣ num') : PI m num' (q + 1) ∧ belowL m (q + 1) = belowL m q ++ [q] := by
  have h2 := h.two
  have hq := h.prime d
  refine ⟨⟨o.pos, by omega, Nat.dvd_trans o.dvd h.dvd, fun e h1 h2 h3 => ?_, fun r hr hp => ?_⟩, ?_⟩
  · by_cases c : e < q
    · exact h.none e h1 c (Nat.dvd_trans h3 o.dvd)
    · have : e = q := by omega
      exact d' (this ▸ h3)
  · rw [h.rest r (by omega) hp, o.same r (by omega) hp (by omega)]
  · rw [below_succ h2, if_pos]
    rw [Bool.and_eq_true, decide_eq_true_eq]
    exact ⟨Nat.mod_eq_zero_of_dvd (Nat.dvd_trans d h.dvd), hq⟩
/-! ### what a table is worth -/
def minorL (t : List (List Int)) (i : Nat) : List (List Int) := (t.drop 1).map fun row => row.take i ++ row.drop (i + 1)
def sgnL (i : Nat) : Int := if i % 2 = 0 then 1 else -1
/-- of tables of k + 1 rows -/
def wP (p : Int) : Nat → List (List Int) → Int
  | 0, t => ent t 0 0 % p
  | k + 1, t => (sm (k + 2) fun i => sgnL i * ent t 0 i * wP p k (minorL t i)) % p
def wI : Nat → List (List Int) → Int
  | 0, t => ent t 0 0
  | k + 1, t => sm (k + 2) fun i => sgnL i * ent t 0 i * wI k (minorL t i)
theorem wP_wI (p : Int) : ∀ (k : Nat) (t : List (List Int)), wP p k t = wI k t % p
  | 0, t => rfl
  | k + 1, t => by
    show (sm _ _) % p = (sm _ _) % p
    refine sm_modc fun i _ => ?_
    rw [wP_wI p k, Int.mul_emod, Int.emod_emod_of_dvd _ (Int.dvd_refl p), ← Int.mul_emod]
theorem minor_ok {p : Int} {n : Nat} {t : List (List Int)} (h : Tab p (n + 1) t) {i : Nat} (hi : i < n + 1) : Tab p n (minorL t i) := ⟨by unfold minorL; rw [List.length_map, List.length_drop, h.len]; rfl, fun r hr => by
  obtain ⟨row, hrow, rfl⟩ := List.mem_map.mp hr
  have := h.row row (List.mem_of_mem_drop hrow)
  refine ⟨by rw [List.length_append, List.length_take, List.length_drop, this.1]; omega, fun x hx => ?_⟩
  rcases List.mem_append.mp hx with z | z
  · exact this.2 x (List.mem_of_mem_take z)
  · exact this.2 x (List.mem_of_mem_drop z)⟩
/-! ### rules that tables keep -/
def rowZ (p : Int) (m : Nat) (c : Nat → Zp p) : List Int := (List.range m).map fun k => Zp.val (c k)
section
variable {p : Int} {n : Nat} {t : List (List Int)}
theorem rowZ_ok (R : Rnd p) (m : Nat) (c : Nat → Zp p) : RowOk p m (rowZ p m c) := ⟨by unfold rowZ; rw [List.length_map, List.length_range], fun x hx => by
  obtain ⟨k, _, rfl⟩ := List.mem_map.mp hx
  exact val_ok R _⟩
theorem rz_rowZ {m k : Nat} {c : Nat → Zp p} (hk : k < m) : rz p (rowZ p m c) k = c k := by
  show Zp.mk p (((List.range m).map _).getD k 0) = _
  rw [getD_range _ _ hk, Zp.mk_val]
theorem zs_succ (m : Nat) (f : Nat → Zp p) : zs (m + 1) f = zs m f + f m := rfl
theorem zs_more {m k : Nat} {f : Nat → Zp p} (h : ∀ i, m ≤ i → i < m + k → f i = 0) : zs (m + k) f = zs m f := by
  induction k with
  | zero => rfl
  | succ k ih =>
    show zs (m + k) f + f (m + k) = _
    rw [ih fun i a b => h i a (by omega), h (m + k) (by omega) (by omega)]
    grind
theorem zs_le {m k : Nat} {f : Nat → Zp p} (hk : m ≤ k) (h : ∀ i, m ≤ i → i < k → f i = 0) : zs k f = zs m f := by
  obtain ⟨l, rfl⟩ : ∃ l, k = m + l := ⟨k - m, by omega⟩
  exact zs_more h
theorem zs_sub (n : Nat) (f g : Nat → Zp p) : zs n (fun i => f i - g i) = zs n f - zs n g := by
  rw [zs_congr (g := fun i => f i + (-1) * g i) fun i _ => by grind, zs_add, zs_mulL]
  grind
/-- a table at a rule -/
def ruleT (p : Int) (n : Nat) (t : List (List Int)) (r : List Int) : List (List Int) := (List.range n).map fun i => (List.range n).map fun j => sm r.length (fun k => r.getD k 0 * ent (pwL p n t k) i j) % p
theorem ruleT_ok (hp : 0 < p) (r : List Int) : Tab p n (ruleT p n t r) := ⟨by unfold ruleT; rw [List.length_map, List.length_range], fun q hq => by
  obtain ⟨i, _, rfl⟩ := List.mem_map.mp hq
  refine ⟨by rw [List.length_map, List.length_range], fun x hx => ?_⟩
  obtain ⟨j, _, rfl⟩ := List.mem_map.mp hx
  exact ⟨Int.emod_nonneg _ (by omega), Int.emod_lt_of_pos _ hp⟩⟩
/-- turns, each so many times, together -/
def cb (p : Int) (n : Nat) (t : List (List Int)) (m : Nat) (c : Nat → Zp p) (i j : Nat) : Zp p := zs m fun k => c k * ez p (pwL p n t k) i j
theorem ez_ruleT {r : List Int} {i j : Nat} (hi : i < n) (hj : j < n) : ez p (ruleT p n t r) i j = cb p n t r.length (rz p r) i j := by
  show Zp.mk p ((rowAt (ruleT p n t r) i).getD j 0) = _
  unfold ruleT rowAt
  rw [getD_range _ _ hi, getD_range _ _ hj, Zp.mk_mod, mk_sm]
  exact zs_congr fun k _ => by rw [Zp.mk_mul]; rfl
def nilB (t : List (List Int)) : Bool := t.all fun r => r.all fun x => decide (x = 0)
theorem nil_iff (hp : 0 < p) (h : Tab p n t) : nilB t = true ↔ ∀ i j, i < n → j < n → ez p t i j = 0 := by
  unfold nilB
  rw [List.all_eq_true]
  constructor
  · intro q i j hi hj
    have := List.all_eq_true.mp (q _ (rowAt_mem (rows := t) (i := i) (by rw [h.len]; exact hi)))
    have hr := h.mem (rowAt_mem (rows := t) (i := i) (by rw [h.len]; exact hi))
    rw [show ez p t i j = rz p (rowAt t i) j from rfl, rz_eq0 hp hr]
    exact of_decide_eq_true (this _ (getD_mem 0 (by rw [hr.len]; exact hj)))
  · intro q r hr
    obtain ⟨i, hi, rfl⟩ := mem_rowAt hr
    have ok := h.mem hr
    rw [List.all_eq_true]
    intro x hx
    obtain ⟨j, hj, rfl⟩ := List.getElem_of_mem hx
    have := q i j (by rw [← h.len]; exact hi) (by rw [← ok.len]; exact hj)
    rw [show ez p t i j = rz p (rowAt t i) j from rfl, rz_eq0 hp ok, List.getD_eq_getElem?_getD, List.getElem?_eq_getElem hj] at this
    exact decide_eq_true this
/-- the first turns are not made of one another -/
def Ind (p : Int) (n : Nat) (t : List (List Int)) (m : Nat) : Prop := ∀ c : Nat → Zp p, (∀ i j, i < n → j < n → cb p n t m c i j = 0) → ∀ k, k < m → c k = 0
def Kl (p : Int) (n : Nat) (t : List (List Int)) (r : List Int) : Prop := ∀ i j, i < n → j < n → cb p n t r.length (rz p r) i j = 0
theorem kl_iff (hp : 0 < p) (r : List Int) : nilB (ruleT p n t r) = true ↔ Kl p n t r := by
  rw [nil_iff hp (ruleT_ok hp r)]
  exact ⟨fun h i j hi hj => by rw [← ez_ruleT hi hj]; exact h i j hi hj, fun h i j hi hj => by rw [ez_ruleT hi hj]; exact h i j hi hj⟩
theorem ind_0 : Ind p n t 0 := fun _ _ k h => absurd h (Nat.not_lt_zero k)
theorem ind_1 (hn : 1 ≤ n) : Ind p n t 1 := fun c h k hk => by
  have e : k = 0 := by omega
  subst e
  have := h 0 0 (by omega) (by omega)
  unfold cb at this
  rw [zs_succ, ez_pw0 (by omega), if_pos rfl] at this
  have e0 : zs 0 (fun k => c k * ez p (pwL p n t k) 0 0) = 0 := rfl
  rw [e0] at this
  grind
/-- if they are, the last one of some first ones is made of those ahead -/
theorem dep_last (R : Rnd p) : ∀ m, ¬ Ind p n t m → ∃ d, d < m ∧ ∃ c : Nat → Zp p, ∀ i j, i < n → j < n → ez p (pwL p n t d) i j + cb p n t d c i j = 0
  | 0, h => absurd ind_0 h
  | m + 1, h => by
    have : ∃ c : Nat → Zp p, (∀ i j, i < n → j < n → cb p n t (m + 1) c i j = 0) ∧ ∃ k, k < m + 1 ∧ c k ≠ 0 := Decidable.byContradiction (dec := Classical.propDecidable _) fun z => h fun c hc k hk => Decidable.byContradiction (dec := Classical.propDecidable _) fun w => z ⟨c, hc, k, hk, w⟩
    obtain ⟨c, hc, k, hk, ck⟩ := this
    by_cases e : c m = 0
    · have hkm : k < m := Nat.lt_of_le_of_ne (by omega) fun z => ck (z ▸ e)
      have hc' : ∀ i j, i < n → j < n → cb p n t m c i j = 0 := fun i j hi hj => by
        have := hc i j hi hj
        unfold cb at this ⊢
        rw [zs_succ, e] at this
        grind
      obtain ⟨d, hd, q⟩ := dep_last R m fun z => ck (z c hc' k hkm)
      exact ⟨d, by omega, q⟩
    · refine ⟨m, Nat.lt_succ_self m, fun k => (c m)⁻¹ * c k, fun i j hi hj => ?_⟩
      have := hc i j hi hj
      unfold cb at this ⊢
      rw [zs_succ] at this
      rw [zs_congr (g := fun k => (c m)⁻¹ * (c k * ez p (pwL p n t k) i j)) fun k _ => by grind, zs_mulL]
      grind
theorem cb_snoc {d : Nat} {u : List Int} (hu : u.length = d) {i j : Nat} : cb p n t (u ++ [1]).length (rz p (u ++ [1])) i j = ez p (pwL p n t d) i j + cb p n t d (rz p u) i j := by
  unfold cb
  rw [List.length_append, hu]
  show zs (d + 1) _ = _
  rw [zs_succ, rz_app hu, if_neg (by omega), if_pos rfl, Zp.mk_one, zs_congr (g := fun k => rz p u k * ez p (pwL p n t k) i j) fun k hk => by rw [rz_app hu, if_pos hk]]
  grind
/-- the least rule -/
structure LeastAt (p : Int) (n : Nat) (t : List (List Int)) (d : Nat) (u : List Int) : Prop where
  ok : RowOk p d u
  d1 : 1 ≤ d
  dn : d ≤ n
  kl : Kl p n t (u ++ [1])
  ind : Ind p n t d
theorem Ind.less {m d : Nat} (h : Ind p n t m) (hd : d ≤ m) : Ind p n t d := fun c hc k hk => by
  have := h (fun k => if k < d then c k else 0) (fun i j hi hj => by
    have := hc i j hi hj
    unfold cb at this ⊢
    rw [zs_le hd fun k a _ => by show (if k < d then c k else 0) * _ = 0; rw [if_neg (by omega)]; grind]
    refine Eq.trans (zs_congr fun k hk => ?_) this
    show (if k < d then c k else 0) * _ = _
    rw [if_pos hk]) k (by omega)
  rw [if_pos hk] at this
  exact this
theorem kill_dep (R : Rnd p) {d : Nat} {u : List Int} (hu : u.length = d) (h : Kl p n t (u ++ [1])) : ¬ Ind p n t (d + 1) := fun z => by
  have := z (rz p (u ++ [1])) (fun i j hi hj => by
    have := h i j hi hj
    rw [List.length_append, hu] at this
    exact this) d (Nat.lt_succ_self d)
  rw [rz_app hu, if_neg (by omega), if_pos rfl, Zp.mk_one] at this
  exact Zp.zno R this.symm
theorem LeastAt.uniq (R : Rnd p) {d d' : Nat} {u u' : List Int} (h : LeastAt p n t d u) (h' : LeastAt p n t d' u') : d = d' ∧ u = u' := by
  have e : d = d' := by
    have a : ¬ d + 1 ≤ d' := fun z => kill_dep R h.ok.len h.kl (h'.ind.less z)
    have b : ¬ d' + 1 ≤ d := fun z => kill_dep R h'.ok.len h'.kl (h.ind.less z)
    omega
  subst e
  refine ⟨rfl, row_extZ h.ok h'.ok fun k hk => ?_⟩
  have := h.ind (fun k => rz p u k - rz p u' k) (fun i j hi hj => by
    have a := h.kl i j hi hj
    have b := h'.kl i j hi hj
    rw [cb_snoc h.ok.len] at a
    rw [cb_snoc h'.ok.len] at b
    unfold cb at a b ⊢
    rw [zs_congr (g := fun k => rz p u k * ez p (pwL p n t k) i j - rz p u' k * ez p (pwL p n t k) i j) fun k _ => by grind, zs_sub]
    grind) k hk
  grind
/-- what is made of those ahead, as a rule -/
theorem least_of_dep (R : Rnd p) (hn : 1 ≤ n) {d : Nat} (hd : d ≤ n) (h : Ind p n t d) (h' : ¬ Ind p n t (d + 1)) : ∃ u, LeastAt p n t d u := by
  obtain ⟨d0, h0, c, hc⟩ := dep_last R _ h'
  have e : d0 = d := by
    refine Decidable.byContradiction fun z => ?_
    have k0 : Kl p n t (rowZ p d0 c ++ [1]) := fun i j hi hj => by
      rw [cb_snoc (rowZ_ok R d0 c).len, ← hc i j hi hj]
      congr 1
      exact zs_congr fun k hk => by rw [rz_rowZ hk]
    exact kill_dep R (rowZ_ok R d0 c).len k0 (h.less (by omega))
  subst e
  refine ⟨rowZ p d0 c, rowZ_ok R d0 c, ?_, hd, fun i j hi hj => ?_, h⟩
  · rcases d0 with _ | d0
    · exact absurd (ind_1 hn) h'
    · omega
  · rw [cb_snoc (rowZ_ok R d0 c).len, ← hc i j hi hj]
    congr 1
    exact zs_congr fun k hk => by rw [rz_rowZ hk]
theorem own_dep (R : Rnd p) (ht : Tab p n t) (h1 : 1 ≤ n) (h3 : n ≤ 3) : ¬ Ind p n t (n + 1) := fun z => by
  have e := own_zero R ht h1 h3
  have := z (fun k => if k < n then ownC p n t k else -1) (fun i j hi hj => by
    have e := e i j hi hj
    unfold cb
    show (zs n fun k => (if k < n then ownC p n t k else -1) * ez p (pwL p n t k) i j) + (if n < n then ownC p n t n else -1) * ez p (pwL p n t n) i j = 0
    rw [if_neg (by omega), zs_congr (g := fun k => ownC p n t k * ez p (pwL p n t k) i j) fun k hk => by rw [if_pos hk]]
    grind) n (Nat.lt_succ_self n)
  have this : (if n < n then ownC p n t n else -1) = (0 : Zp p) := this
  rw [if_neg (by omega)] at this
  have := Zp.zno R
  grind
theorem least_ex (R : Rnd p) (ht : Tab p n t) (h1 : 1 ≤ n) (h3 : n ≤ 3) : ∃ d u, LeastAt p n t d u := by
  have key : ∀ k, k ≤ n → (∃ d, d < k ∧ Ind p n t d ∧ ¬ Ind p n t (d + 1)) ∨ Ind p n t k := fun k => by
    induction k with
    | zero => exact fun _ => .inr ind_0
    | succ k ih =>
      intro hk
      rcases ih (by omega) with ⟨d, a, b⟩ | h
      · exact .inl ⟨d, by omega, b⟩
      · by_cases e : Ind p n t (k + 1)
        · exact .inr e
        · exact .inl ⟨k, by omega, h, e⟩
  rcases key n (Nat.le_refl n) with ⟨d, hd, a, b⟩ | h
  · exact ⟨d, least_of_dep R h1 (by omega) a b⟩
  · exact ⟨n, least_of_dep R h1 (Nat.le_refl n) h (own_dep R ht h1 h3)⟩
/-- found by trying all -/
def tryL (p : Int) (n : Nat) (t : List (List Int)) (d : Nat) : Option (List Int) := (rowsA p d).find? fun u => nilB (ruleT p n t (u ++ [1]))
def leastG (p : Int) (n : Nat) (t : List (List Int)) : Nat → Nat → List Int
  | 0, _ => []
  | g + 1, d => match tryL p n t d with
    | some u => u ++ [1]
    | none => leastG p n t g (d + 1)
def leastL (p : Int) (n : Nat) (t : List (List Int)) : List Int := leastG p n t n 1
theorem try_none (hp : 0 < p) {d : Nat} (h : tryL p n t d = none) {u : List Int} (hu : RowOk p d u) : ¬ Kl p n t (u ++ [1]) := fun z => by
  have := List.find?_eq_none.mp h u (rowsA_ok.mpr hu)
  exact this ((kl_iff hp _).mpr z)
theorem try_some (hp : 0 < p) {d : Nat} {u : List Int} (h : tryL p n t d = some u) : RowOk p d u ∧ Kl p n t (u ++ [1]) :=
  ⟨rowsA_ok.mp (List.mem_of_find?_eq_some h), (kl_iff hp _).mp (List.find?_some (p := fun u => nilB (ruleT p n t (u ++ [1]))) h)⟩
/-- nothing shorter: the turns are not made of one another -/
theorem ind_of_none (R : Rnd p) (hn : 1 ≤ n) {d : Nat} (h : ∀ d' u, 1 ≤ d' → d' < d → RowOk p d' u → ¬ Kl p n t (u ++ [1])) : Ind p n t d := Decidable.byContradiction (dec := Classical.propDecidable _) fun z => by
  obtain ⟨d0, h0, c, hc⟩ := dep_last R _ z
  have k0 : Kl p n t (rowZ p d0 c ++ [1]) := fun i j hi hj => by
    rw [cb_snoc (rowZ_ok R d0 c).len, ← hc i j hi hj]
    congr 1
    exact zs_congr fun k hk => by rw [rz_rowZ hk]
  rcases Nat.eq_zero_or_pos d0 with e | e
  · subst e
    exact kill_dep R (rowZ_ok R 0 c).len k0 (ind_1 hn)
  · exact h d0 _ e h0 (rowZ_ok R d0 c) k0
theorem leastG_ok (R : Rnd p) (ht : Tab p n t) (h1 : 1 ≤ n) (h3 : n ≤ 3) : ∀ g d, g + d = n + 1 → 1 ≤ d → (∀ d' u, 1 ≤ d' → d' < d → RowOk p d' u → ¬ Kl p n t (u ++ [1])) → ∃ e u, LeastAt p n t e u ∧ leastG p n t g d = u ++ [1]
  | 0, d, hg, hd, h => by
    obtain ⟨d', u, L⟩ := least_ex R ht h1 h3
    exact absurd L.kl (h d' u L.d1 (by have := L.dn; omega) L.ok)
  | g + 1, d, hg, hd, h => by
    have el : leastG p n t (g + 1) d = match tryL p n t d with
      | some u => u ++ [1]
      | none => leastG p n t g (d + 1) := rfl
    rw [el]
    cases q : tryL p n t d with
    | some u =>
      obtain ⟨a, b⟩ := try_some R.h.pos q
      exact ⟨d, u, ⟨a, hd, by omega, b, ind_of_none R h1 h⟩, rfl⟩
    | none =>
      refine leastG_ok R ht h1 h3 g (d + 1) (by omega) (by omega) fun d' u a b hu => ?_
      by_cases e : d' < d
      · exact h d' u a e hu
      · have e : d' = d := by omega
        subst e
        exact try_none R.h.pos q hu
theorem leastL_ok (R : Rnd p) (ht : Tab p n t) (h1 : 1 ≤ n) (h3 : n ≤ 3) : ∃ d u, LeastAt p n t d u ∧ leastL p n t = u ++ [1] := leastG_ok R ht h1 h3 n 1 rfl (Nat.le_refl 1) fun d' u a b => by omega
theorem LeastAt.is (R : Rnd p) (ht : Tab p n t) (h1 : 1 ≤ n) (h3 : n ≤ 3) {d : Nat} {u : List Int} (h : LeastAt p n t d u) : leastL p n t = u ++ [1] := by
  obtain ⟨d', u', h', e⟩ := leastL_ok R ht h1 h3
  rw [e, (h'.uniq R h).2]
end
/-! ### what some rows take to nought -/
def dotZ {p : Int} (w : Nat) (c : Nat → Zp p) (r : List Int) : Zp p := zs w fun j => rz p r j * c j
section
variable {p : Int} {w m n : Nat} {t : List (List Int)}
theorem Sp.perp {rows : List (List Int)} (h : ∀ r ∈ rows, r.length = w) (hp : 0 < p) {c : Nat → Zp p} (q : ∀ r ∈ rows, dotZ w c r = 0) {r : List Int} (hr : Sp p w rows r) : dotZ w c r = 0 := by
  induction hr with
  | zero =>
    unfold dotZ
    rw [zs_congr (g := fun _ => 0) fun k _ => by rw [rz_zero]; grind, zs_zero]
  | @add one row z h1 h2 ih =>
    have l1 := (Sp.ok hp h h1).len
    have a := q row h2
    unfold dotZ at a ih ⊢
    rw [zs_congr (g := fun j => rz p one j * c j + Zp.mk p z * (rz p row j * c j)) fun j _ => by rw [rz_addL (by rw [h row h2, l1])]; grind, zs_add, zs_mulL, ih, a]
    grind
theorem GInv.perp (hp : 0 < p) {rows0 : List (List Int)} (h0 : ∀ r ∈ rows0, RowOk p w r) {s : Nat} {st : List (List Int) × List Nat} (h : GInv p w m rows0 s st) {c : Nat → Zp p} : (∀ r ∈ rows0, dotZ w c r = 0) ↔ ∀ r ∈ st.1, dotZ w c r = 0 :=
  ⟨fun q r hr => Sp.perp (fun r hr => (h0 r hr).len) hp q (h.to r hr), fun q r hr => Sp.perp (fun r hr => (h.ok r hr).len) hp q (h.fro r hr)⟩
/-- a spot without a lead, and what goes with it -/
def freeV {p : Int} (st : List (List Int) × List Nat) (f : Nat) : Nat → Zp p := fun k => (if f = k then 1 else 0) - zs st.2.length fun l => (if st.2.getD l 0 = k then 1 else 0) * rz p (rowAt st.1 l) f
theorem zs_out {w : Nat} {f : Nat} (hf : f < w) (g : Nat → Zp p) : zs w (fun k => g k * (if f = k then 1 else 0)) = g f := by
  rw [zs_congr (g := fun k => (if f = k then 1 else 0) * g k) fun k _ => by grind, zs_one, if_pos hf]
theorem GInv.free (R : Rnd p) {rows0 : List (List Int)} (h0 : ∀ r ∈ rows0, RowOk p w r) {s : Nat} {st : List (List Int) × List Nat} (h : GInv p w m rows0 s st) (hs : s ≤ w) {f : Nat} (hf : f < s) : ∀ r ∈ rows0, dotZ w (freeV (p := p) st f) r = 0 := by
  refine (h.perp R.h.pos h0).mpr fun r hr => ?_
  obtain ⟨i, hi, rfl⟩ := mem_rowAt hr
  rw [h.len] at hi
  unfold dotZ freeV
  rw [zs_congr (g := fun k => rz p (rowAt st.1 i) k * (if f = k then 1 else 0) - zs st.2.length fun l => rz p (rowAt st.1 l) f * (rz p (rowAt st.1 i) k * (if st.2.getD l 0 = k then 1 else 0))) fun k _ => by
    rw [zs_congr (n := st.2.length) (f := fun l => rz p (rowAt st.1 l) f * (rz p (rowAt st.1 i) k * (if st.2.getD l 0 = k then 1 else 0))) (g := fun l => rz p (rowAt st.1 i) k * ((if st.2.getD l 0 = k then 1 else 0) * rz p (rowAt st.1 l) f)) fun l _ => by grind, zs_mulL]
    grind, zs_sub, zs_out (by omega), zs_swap]
  rw [zs_congr (n := st.2.length) (g := fun l => (if i = l then 1 else 0) * rz p (rowAt st.1 l) f) fun l hl => by
    have lt := h.lt _ (getD_mem 0 hl)
    rw [zs_mulL, zs_out (by omega), h.del i l hi hl]
    grind, zs_one]
  by_cases e : i < st.2.length
  · rw [if_pos e]
    grind
  · rw [if_neg e, h.low i f hi (by omega) hf]
    grind
theorem GInv.free_at {rows0 : List (List Int)} {s : Nat} {st : List (List Int) × List Nat} (h : GInv p w m rows0 s st) {f g : Nat} (hg : g ∉ st.2) : freeV (p := p) st f g = if f = g then 1 else 0 := by
  unfold freeV
  rw [zs_congr (g := fun _ => 0) fun l hl => by
    rw [if_neg fun z => hg (by rw [← z]; exact getD_mem 0 hl)]
    grind, zs_zero]
  grind
/-! ### turns as rows -/
def powsL (p : Int) (n : Nat) (t : List (List Int)) (m : Nat) : List (List Int) := (List.range m).map fun k => (pwL p n t k).flatten
theorem flat_get : ∀ {s : List (List Int)} {n i j : Nat}, (∀ r ∈ s, r.length = n) → j < n → s.flatten.getD (i * n + j) 0 = (rowAt s i).getD j 0
  | [], n, i, j, _, _ => by
    unfold rowAt
    simp
  | r :: s, n, 0, j, h, hj => by
    have := h r (List.mem_cons_self ..)
    rw [Nat.zero_mul, Nat.zero_add, List.flatten_cons, List.getD_eq_getElem?_getD, List.getElem?_append_left (by omega)]
    rfl
  | r :: s, n, i + 1, j, h, hj => by
    have := h r (List.mem_cons_self ..)
    have ih := flat_get (s := s) (i := i) (fun r hr => h r (List.mem_cons_of_mem _ hr)) hj
    rw [List.flatten_cons, List.getD_eq_getElem?_getD, List.getElem?_append_right (by rw [Nat.succ_mul]; omega), this, show (i + 1) * n + j - n = i * n + j from by rw [Nat.succ_mul]; omega, ← List.getD_eq_getElem?_getD, ih]
    rfl
theorem flat_len : ∀ {s : List (List Int)} {n : Nat}, (∀ r ∈ s, r.length = n) → s.flatten.length = s.length * n
  | [], n, _ => by simp
  | r :: s, n, h => by
    rw [List.flatten_cons, List.length_append, flat_len fun r hr => h r (List.mem_cons_of_mem _ hr), h r (List.mem_cons_self ..), List.length_cons, Nat.succ_mul]
    omega
theorem flat_ok {s : List (List Int)} (h : Tab p n s) : RowOk p (n * n) s.flatten := ⟨by rw [flat_len fun r hr => (h.row r hr).1, h.len], fun x hx => by
  obtain ⟨r, hr, hx⟩ := List.mem_flatten.mp hx
  exact (h.row r hr).2 x hx⟩
theorem rz_flat {s : List (List Int)} (h : Tab p n s) {i j : Nat} (hj : j < n) : rz p s.flatten (i * n + j) = ez p s i j := by
  show Zp.mk p _ = Zp.mk p _
  rw [flat_get (fun r hr => (h.row r hr).1) hj]
theorem pows_len (m : Nat) : (powsL p n t m).length = m := by
  unfold powsL
  rw [List.length_map, List.length_range]
theorem pows_at {m k : Nat} (hk : k < m) : rowAt (powsL p n t m) k = (pwL p n t k).flatten := by
  unfold powsL rowAt
  rw [getD_range _ _ hk]
theorem pows_ok (R : Rnd p) (ht : Tab p n t) (m : Nat) : ∀ r ∈ powsL p n t m, RowOk p (n * n) r := fun r hr => by
  obtain ⟨k, _, rfl⟩ := List.mem_map.mp hr
  exact flat_ok (pw_ok R.h.two ht k)
theorem spot_ij {s : Nat} (hn : 0 < n) (hs : s < n * n) : s / n < n ∧ s % n < n ∧ s / n * n + s % n = s := ⟨Nat.div_lt_of_lt_mul hs, Nat.mod_lt _ hn, by rw [Nat.mul_comm]; exact Nat.div_add_mod s n⟩
theorem ij_spot {i j : Nat} (hi : i < n) (hj : j < n) : i * n + j < n * n := by
  have := Nat.mul_le_mul_right n (show i + 1 ≤ n from hi)
  rw [Nat.succ_mul] at this
  omega
theorem rank_ind (R : Rnd p) (ht : Tab p n t) (hn : 1 ≤ n) (m : Nat) : rankL p (n * n) (powsL p n t m) = m ↔ Ind p n t m := by
  have iff := indep_iff R _ (pows_ok R ht m)
  rw [pows_len] at iff
  rw [iff]
  have key : ∀ (v : List Int), RowOk p m v → (linL p (n * n) v (powsL p n t m) = zeroR (n * n) ↔ ∀ i j, i < n → j < n → cb p n t m (rz p v) i j = 0) := fun v hv => by
    have e : ∀ s, s < n * n → rz p (linL p (n * n) v (powsL p n t m)) s = cb p n t m (rz p v) (s / n) (s % n) := fun s hs => by
      obtain ⟨a, b, c⟩ := spot_ij (by omega) hs
      rw [rz_lin hv.len (pows_len m) hs]
      refine zs_congr fun k hk => ?_
      rw [pows_at hk, ← rz_flat (pw_ok R.h.two ht k) b, c]
    constructor
    · intro h i j hi hj
      have hs := ij_spot hi hj
      have := e (i * n + j) hs
      rw [h, rz_zero] at this
      have a : (i * n + j) / n = i := by rw [Nat.mul_comm, Nat.mul_add_div (by omega), Nat.div_eq_of_lt hj, Nat.add_zero]
      have b : (i * n + j) % n = j := by rw [Nat.mul_comm, Nat.mul_add_mod, Nat.mod_eq_of_lt hj]
      rw [a, b] at this
      exact this.symm
    · intro h
      refine row_extZ (linL_ok R.h.pos _ _) (zeroR_ok R.h.pos _) fun s hs => ?_
      obtain ⟨a, b, _⟩ := spot_ij (by omega) hs
      rw [e s hs, h _ _ a b, rz_zero]
  constructor
  · intro h c hc k hk
    have := h (rowZ p m c) (rowZ_ok R m c) ((key _ (rowZ_ok R m c)).mpr fun i j hi hj => by
      rw [← hc i j hi hj]
      exact zs_congr fun k hk => by rw [rz_rowZ hk])
    rw [← rz_rowZ (c := c) hk, this, rz_zero]
  · intro h v hv hl
    exact row_extZ hv (zeroR_ok R.h.pos m) fun k hk => by rw [h _ ((key v hv).mp hl) k hk, rz_zero]
theorem range_getD {d k : Nat} (h : k < d) : (List.range d).getD k 0 = k := by
  rw [List.getD_eq_getElem?_getD, List.getElem?_range h]
  rfl
/-! ### the rule by which the last of some rows is made of the others -/
def linesL (pows : List (List Int)) : List (List Int) := (List.range (rowAt pows 0).length).map fun spot => pows.map fun row => row.getD spot 0
def madeR (p : Int) (pows : List (List Int)) : List Int := ((List.range (pows.length - 1)).map fun i => -((rowAt (clearTo p (linesL pows) (pows.length - 1)).1 i).getD (pows.length - 1) 0) % p) ++ [1]
theorem lines_ok (R : Rnd p) (ht : Tab p n t) {d : Nat} : ∀ r ∈ linesL (powsL p n t (d + 1)), RowOk p (d + 1) r := fun r hr => by
  obtain ⟨s, hs, rfl⟩ := List.mem_map.mp hr
  refine ⟨by rw [List.length_map, pows_len], fun x hx => ?_⟩
  obtain ⟨row, hrow, rfl⟩ := List.mem_map.mp hx
  have ok := pows_ok R ht (d + 1) row hrow
  have ok0 := pows_ok R ht (d + 1) _ (rowAt_mem (i := 0) (by rw [pows_len]; omega))
  have := List.mem_range.mp hs
  rw [ok0.len] at this
  exact ok.rest _ (getD_mem 0 (by rw [ok.len]; exact this))
theorem lines_len (R : Rnd p) (ht : Tab p n t) {d : Nat} : (linesL (powsL p n t (d + 1))).length = n * n := by
  unfold linesL
  rw [List.length_map, List.length_range, (pows_ok R ht (d + 1) _ (rowAt_mem (i := 0) (by rw [pows_len]; omega))).len]
theorem lines_perp (R : Rnd p) (ht : Tab p n t) (hn : 1 ≤ n) {d : Nat} {c : Nat → Zp p} : (∀ r ∈ linesL (powsL p n t (d + 1)), dotZ (d + 1) c r = 0) ↔ ∀ i j, i < n → j < n → cb p n t (d + 1) c i j = 0 := by
  have e : ∀ s, s < n * n → dotZ (d + 1) c ((powsL p n t (d + 1)).map fun row => row.getD s 0) = cb p n t (d + 1) c (s / n) (s % n) := fun s hs => by
    obtain ⟨a, b, z⟩ := spot_ij (by omega) hs
    refine zs_congr fun k hk => ?_
    have : rz p ((powsL p n t (d + 1)).map fun row => row.getD s 0) k = ez p (pwL p n t k) (s / n) (s % n) := by
      show Zp.mk p (((powsL p n t (d + 1)).map _).getD k 0) = _
      unfold powsL
      rw [List.map_map, getD_range _ _ hk]
      show rz p (pwL p n t k).flatten s = _
      rw [← rz_flat (pw_ok R.h.two ht k) b, z]
    rw [this]
    grind
  have ok0 := pows_ok R ht (d + 1) _ (rowAt_mem (i := 0) (by rw [pows_len]; omega))
  constructor
  · intro h i j hi hj
    have hs := ij_spot hi hj
    have a : (i * n + j) / n = i := by rw [Nat.mul_comm, Nat.mul_add_div (by omega), Nat.div_eq_of_lt hj, Nat.add_zero]
    have b : (i * n + j) % n = j := by rw [Nat.mul_comm, Nat.mul_add_mod, Nat.mod_eq_of_lt hj]
    have := e (i * n + j) hs
    rw [a, b] at this
    rw [← this]
    exact h _ (List.mem_map.mpr ⟨_, List.mem_range.mpr (by rw [ok0.len]; exact hs), rfl⟩)
  · intro h r hr
    obtain ⟨s, hs, rfl⟩ := List.mem_map.mp hr
    have hs := List.mem_range.mp hs
    rw [ok0.len] at hs
    obtain ⟨a, b, _⟩ := spot_ij (by omega) hs
    rw [e s hs]
    exact h _ _ a b
theorem made_ok (R : Rnd p) (ht : Tab p n t) (hn : 1 ≤ n) {d : Nat} (hd : d ≤ n) (h : Ind p n t d) (h' : ¬ Ind p n t (d + 1)) : ∃ u, LeastAt p n t d u ∧ madeR p (powsL p n t (d + 1)) = u ++ [1] := by
  obtain ⟨u, L⟩ := least_of_dep R hn hd h h'
  refine ⟨u, L, ?_⟩
  have ok := lines_ok (d := d) R ht
  have g := clear_inv R.h ok d
  have gp := g.perp (c := rz p (u ++ [1])) R.h.pos ok
  have v0 := gp.mp ((lines_perp R ht hn).mpr fun i j hi hj => by
    have := L.kl i j hi hj
    rw [List.length_append, L.ok.len] at this
    exact this)
  have all : ∀ f, f < d → f ∈ (clearTo p (linesL (powsL p n t (d + 1))) d).2 := fun f hf => Decidable.byContradiction fun z => by
    have fr := (lines_perp R ht hn).mp (g.free R ok (by omega) hf)
    have at_d : freeV (p := p) (clearTo p (linesL (powsL p n t (d + 1))) d) f d = 0 := by
      rw [g.free_at fun z => by have := g.lt d z; omega, if_neg (by omega)]
    have := h (freeV (clearTo p (linesL (powsL p n t (d + 1))) d) f) (fun i j hi hj => by
      have := fr i j hi hj
      unfold cb at this ⊢
      rw [zs_succ, at_d] at this
      grind) f hf
    rw [g.free_at z, if_pos rfl] at this
    exact Zp.zno R this.symm
  have nd : (List.range d).Nodup := List.nodup_range
  have le1 := nodup_le nd fun x hx => all x (List.mem_range.mp hx)
  rw [List.length_range] at le1
  have le2 := inc_len g.inc g.lt
  have el := inc_all g.inc g.lt (by omega)
  have key : ∀ i, i < d → rz p u i = -(rz p (rowAt (clearTo p (linesL (powsL p n t (d + 1))) d).1 i) d) := fun i hi => by
    have hm : i < n * n := by
      have := Nat.mul_le_mul_right n hn
      omega
    rw [lines_len R ht] at g
    have := v0 _ (rowAt_mem (i := i) (by rw [g.len]; exact hm))
    unfold dotZ at this
    rw [zs_succ, rz_app L.ok.len, if_neg (by omega), if_pos rfl, Zp.mk_one] at this
    rw [zs_congr (g := fun k => (if i = k then 1 else 0) * rz p u k) fun k hk => by
      have dl := g.del i k hm (by rw [el, List.length_range]; exact hk)
      rw [el, range_getD hk] at dl
      rw [dl, rz_app L.ok.len, if_pos hk], zs_one, if_pos hi] at this
    grind
  unfold madeR
  rw [pows_len, Nat.add_sub_cancel]
  congr 1
  have ro : RowOk p d ((List.range d).map fun i => -((rowAt (clearTo p (linesL (powsL p n t (d + 1))) d).1 i).getD d 0) % p) := ⟨by rw [List.length_map, List.length_range], fun x hx => by
    obtain ⟨i, _, rfl⟩ := List.mem_map.mp hx
    exact ⟨Int.emod_nonneg _ (by have := R.h.pos; omega), Int.emod_lt_of_pos _ R.h.pos⟩⟩
  refine row_extZ ro L.ok fun i hi => ?_
  rw [key i hi]
  show Zp.mk p (((List.range d).map _).getD i 0) = _
  rw [getD_range _ _ hi, Zp.mk_mod, Zp.mk_neg]
  rfl
/-- the rule found by clearing -/
def leastP (p : Int) (n : Nat) (t : List (List Int)) : Nat → Nat → List Int
  | 0, _ => []
  | g + 1, k => if rankG p (powsL p n t (k + 1)) < k + 1 then madeR p (powsL p n t (k + 1)) else leastP p n t g (k + 1)
theorem leastP_ok (R : Rnd p) (ht : Tab p n t) (h1 : 1 ≤ n) (h3 : n ≤ 3) : ∀ g k, g + k = n + 1 → Ind p n t k → leastP p n t g k = leastL p n t
  | 0, k, hg, h => by
    have e : k = n + 1 := by omega
    subst e
    exact absurd h (own_dep R ht h1 h3)
  | g + 1, k, hg, h => by
    have e : rankG p (powsL p n t (k + 1)) = rankL p (n * n) (powsL p n t (k + 1)) := rankG_eq R (pows_ok R ht _)
    have le := rank_le (w := n * n) R (powsL p n t (k + 1))
    rw [pows_len] at le
    have ri := rank_ind R ht h1 (k + 1)
    show (if _ then _ else _) = _
    rw [e]
    by_cases q : rankL p (n * n) (powsL p n t (k + 1)) < k + 1
    · rw [if_pos q]
      obtain ⟨u, L, em⟩ := made_ok R ht h1 (by omega) h fun z => by
        have := ri.mpr z
        omega
      rw [em, L.is R ht h1 h3]
    · rw [if_neg q]
      exact leastP_ok R ht h1 h3 g (k + 1) (by omega) (ri.mp (by omega))
end
/-! ### rows that span all -/
section
variable {p : Int}
def det3 (x y z : Nat → Zp p) : Zp p := x 0 * (y 1 * z 2 - y 2 * z 1) - x 1 * (y 0 * z 2 - y 2 * z 0) + x 2 * (y 0 * z 1 - y 1 * z 0)
def mv3 (a : Nat → Nat → Zp p) (x : Nat → Zp p) (j : Nat) : Zp p := x 0 * a 0 j + x 1 * a 1 j + x 2 * a 2 j
def co3 (v m u : Nat → Zp p) (x y z : Zp p) (j : Nat) : Zp p := x * v j + y * m j + z * u j
def e3 (i : Nat) : Nat → Zp p := fun j => if i = j then 1 else 0
theorem mv3_co (a : Nat → Nat → Zp p) (v m u : Nat → Zp p) (x y z : Zp p) (j : Nat) : mv3 a (co3 v m u x y z) j = x * mv3 a v j + y * mv3 a m j + z * mv3 a u j := by
  unfold mv3 co3
  grind
theorem mv3_congr {a : Nat → Nat → Zp p} {x y : Nat → Zp p} (h : ∀ j, j < 3 → x j = y j) (j : Nat) : mv3 a x j = mv3 a y j := by
  unfold mv3
  rw [h 0 (by omega), h 1 (by omega), h 2 (by omega)]
theorem det3_congr {x y z x' y' z' : Nat → Zp p} (h1 : ∀ j, j < 3 → x j = x' j) (h2 : ∀ j, j < 3 → y j = y' j) (h3 : ∀ j, j < 3 → z j = z' j) : det3 x y z = det3 x' y' z' := by
  unfold det3
  rw [h1 0 (by omega), h1 1 (by omega), h1 2 (by omega), h2 0 (by omega), h2 1 (by omega), h2 2 (by omega), h3 0 (by omega), h3 1 (by omega), h3 2 (by omega)]
theorem det3_co (v m u : Nat → Zp p) (x1 x2 x3 y1 y2 y3 z1 z2 z3 : Zp p) : det3 (co3 v m u x1 x2 x3) (co3 v m u y1 y2 y3) (co3 v m u z1 z2 z3) =
    (x1 * (y2 * z3 - y3 * z2) - x2 * (y1 * z3 - y3 * z1) + x3 * (y1 * z2 - y2 * z1)) * det3 v m u := by
  unfold det3 co3
  grind
/-- each row, by three that are not made of one another -/
theorem cramer (v m u w : Nat → Zp p) (j : Nat) (hj : j < 3) : det3 v m u * w j = det3 w m u * v j + det3 v w u * m j + det3 v m w * u j := by
  have : j = 0 ∨ j = 1 ∨ j = 2 := by omega
  unfold det3
  rcases this with e | e | e <;> subst e <;> grind
theorem scal3 {a : Nat → Nat → Zp p} (h : ∀ v u : Nat → Zp p, det3 v (mv3 a v) u = 0) : ∀ i j, i < 3 → j < 3 → a i j = a 0 0 * (if i = j then 1 else 0) := by
  have h01 := h (e3 0) (e3 2)
  have h02 := h (e3 0) (e3 1)
  have h10 := h (e3 1) (e3 2)
  have h12 := h (e3 1) (e3 0)
  have h20 := h (e3 2) (e3 1)
  have h21 := h (e3 2) (e3 0)
  have k1 := h (fun j => e3 0 j + e3 1 j) (e3 2)
  have k2 := h (fun j => e3 0 j + e3 2 j) (e3 1)
  simp only [det3, mv3, e3, reduceIte, Nat.reduceEqDiff, Nat.zero_ne_one, Nat.one_ne_zero] at h01 h02 h10 h12 h20 h21 k1 k2
  intro i j hi hj
  have hi' : i = 0 ∨ i = 1 ∨ i = 2 := by omega
  have hj' : j = 0 ∨ j = 1 ∨ j = 2 := by omega
  rcases hi' with e | e | e <;> subst e <;> rcases hj' with e | e | e <;> subst e <;> simp only [reduceIte, Nat.reduceEqDiff, Nat.zero_ne_one, Nat.one_ne_zero] <;> grind
/-- the heart: a row beside those of one round -/
theorem heart [Rnd p] {a b c x y : Zp p} (h1 : x * x + x * y * b - y * y * a = 0) (h2 : ((1 + y) * (c * c) - c * (x + (1 + y) * b + c * y)) + (x * (x + (1 + y) * b + c * y) - (1 + y) * ((1 + y) * a + c * x)) = 0) (hq : c * c - b * c - a = 0) : x + c * y = 0 := by
  have ea : a = c * c - b * c := by grind
  subst ea
  have f1 : (x + c * y) * (x + (b - c) * y) = 0 := by grind
  refine Decidable.byContradiction (dec := Classical.propDecidable _) fun z => ?_
  have ex : x = (c - b) * y := by grind
  subst ex
  have f2 : y * ((c + (c - b)) * (c + (c - b))) = 0 := by grind
  grind
/-- if no row spans all, some two turns make the next one -/
theorem no_cyc [Rnd p] {a : Nat → Nat → Zp p} (H : ∀ x : Nat → Zp p, det3 x (mv3 a x) (mv3 a (mv3 a x)) = 0) : ∃ c0 c1 c2 : Zp p, ¬ (c0 = 0 ∧ c1 = 0 ∧ c2 = 0) ∧ ∀ w : Nat → Zp p, ∀ j, j < 3 → c0 * w j + c1 * mv3 a w j + c2 * mv3 a (mv3 a w) j = 0 := by
  by_cases hs : ∀ v u : Nat → Zp p, det3 v (mv3 a v) u = 0
  · have s := scal3 hs
    have one : (1 : Zp p) ≠ 0 := fun z => Zp.zno inferInstance z.symm
    refine ⟨-(a 0 0), 1, 0, fun z => one z.2.1, fun w j hj => ?_⟩
    have s0 := s 0 j (by omega) hj
    have s1 := s 1 j (by omega) hj
    have s2 := s 2 j (by omega) hj
    have : mv3 a w j = w 0 * a 0 j + w 1 * a 1 j + w 2 * a 2 j := rfl
    rw [this, s0, s1, s2]
    have hj' : j = 0 ∨ j = 1 ∨ j = 2 := by omega
    rcases hj' with e | e | e <;> subst e <;> simp only [reduceIte, Nat.reduceEqDiff, Nat.zero_ne_one, Nat.one_ne_zero] <;> grind
  · have : ∃ v u : Nat → Zp p, det3 v (mv3 a v) u ≠ 0 := Decidable.byContradiction (dec := Classical.propDecidable _) fun z => hs fun v u => Decidable.byContradiction (dec := Classical.propDecidable _) fun w => z ⟨v, u, w⟩
    obtain ⟨v, u, hD⟩ := this
    generalize hm : mv3 a v = m at hD
    have Hv := H v
    rw [hm] at Hv
    generalize hDe : det3 v m u = Dd at hD
    -- the second turn of v
    obtain ⟨α, β, hmm⟩ : ∃ α β : Zp p, ∀ j, j < 3 → mv3 a m j = α * v j + β * m j := by
      refine ⟨det3 (mv3 a m) m u * Dd⁻¹, det3 v (mv3 a m) u * Dd⁻¹, fun j hj => ?_⟩
      have := cramer v m u (mv3 a m) j hj
      rw [hDe, Hv] at this
      grind
    obtain ⟨x, y, c, hu⟩ : ∃ x y c : Zp p, ∀ j, j < 3 → mv3 a u j = x * v j + y * m j + c * u j := by
      refine ⟨det3 (mv3 a u) m u * Dd⁻¹, det3 v (mv3 a u) u * Dd⁻¹, det3 v m (mv3 a u) * Dd⁻¹, fun j hj => ?_⟩
      have := cramer v m u (mv3 a u) j hj
      rw [hDe] at this
      grind
    -- turns, by what they are made of
    have tn : ∀ x1 x2 x3 : Zp p, ∀ j, j < 3 → mv3 a (co3 v m u x1 x2 x3) j = co3 v m u (x2 * α + x3 * x) (x1 + x2 * β + x3 * y) (x3 * c) j := fun x1 x2 x3 j hj => by
      rw [mv3_co, hm, hmm j hj, hu j hj]
      unfold co3
      grind
    have HH : ∀ x1 x2 x3 : Zp p, det3 (co3 v m u x1 x2 x3) (co3 v m u (x2 * α + x3 * x) (x1 + x2 * β + x3 * y) (x3 * c)) (co3 v m u ((x1 + x2 * β + x3 * y) * α + (x3 * c) * x) ((x2 * α + x3 * x) + (x1 + x2 * β + x3 * y) * β + (x3 * c) * y) ((x3 * c) * c)) = 0 := fun x1 x2 x3 => by
      rw [← H (co3 v m u x1 x2 x3)]
      refine det3_congr (fun _ _ => rfl) (fun j hj => (tn x1 x2 x3 j hj).symm) fun j hj => ?_
      rw [mv3_congr (tn x1 x2 x3) j, tn _ _ _ j hj]
    have E : ∀ x1 x2 x3 : Zp p, (x1 * ((x1 + x2 * β + x3 * y) * ((x3 * c) * c) - (x3 * c) * ((x2 * α + x3 * x) + (x1 + x2 * β + x3 * y) * β + (x3 * c) * y)) - x2 * ((x2 * α + x3 * x) * ((x3 * c) * c) - (x3 * c) * ((x1 + x2 * β + x3 * y) * α + (x3 * c) * x)) + x3 * ((x2 * α + x3 * x) * ((x2 * α + x3 * x) + (x1 + x2 * β + x3 * y) * β + (x3 * c) * y) - (x1 + x2 * β + x3 * y) * ((x1 + x2 * β + x3 * y) * α + (x3 * c) * x))) = 0 := fun x1 x2 x3 => by
      have := HH x1 x2 x3
      rw [det3_co, hDe] at this
      grind
    have E1 := E 0 0 1
    have E2 := E 1 0 1
    have hq : c * c - β * c - α = 0 := by
      have E3 := E (1 + (y * α + (c - β) * x)) (x + c * y) (c * c - β * c - α)
      have : (c * c - β * c - α) * (c * c - β * c - α) = 0 := by grind
      grind
    have hz : x + c * y = 0 := heart (a := α) (b := β) (c := c) (x := x) (y := y) (by grind) (by grind) hq
    have one : (1 : Zp p) ≠ 0 := fun z => Zp.zno inferInstance z.symm
    refine ⟨-α, -β, 1, fun z => one z.2.2, fun w j hj => ?_⟩
    have cw : ∀ i, i < 3 → Dd * w i = co3 v m u (det3 w m u) (det3 v w u) (det3 v m w) i := fun i hi => by
      rw [← hDe]
      exact cramer v m u w i hi
    generalize det3 w m u = d1 at cw
    generalize det3 v w u = d2 at cw
    generalize det3 v m w = d3 at cw
    have l1 : ∀ i, i < 3 → Dd * mv3 a w i = co3 v m u (d2 * α + d3 * x) (d1 + d2 * β + d3 * y) (d3 * c) i := fun i hi => by
      rw [← tn d1 d2 d3 i hi, ← mv3_congr cw i]
      unfold mv3
      grind
    have l2 : Dd * mv3 a (mv3 a w) j = co3 v m u ((d1 + d2 * β + d3 * y) * α + (d3 * c) * x) ((d2 * α + d3 * x) + (d1 + d2 * β + d3 * y) * β + (d3 * c) * y) ((d3 * c) * c) j := by
      rw [← tn _ _ _ j hj, ← mv3_congr l1 j]
      unfold mv3
      grind
    have c0 := cw j hj
    have c1 := l1 j hj
    unfold co3 at c0 c1 l2
    have : Dd * (-α * w j + -β * mv3 a w j + 1 * mv3 a (mv3 a w) j) = 0 := by
      generalize v j = vj at *
      generalize m j = mj at *
      generalize u j = uj at *
      generalize w j = wj at *
      generalize mv3 a w j = w1 at *
      generalize mv3 a (mv3 a w) j = w2 at *
      have ex : x = -(c * y) := by grind
      have ea : α = c * c - β * c := by grind
      subst ex ea
      grind
    grind
end
/-! ### a row moved again and again -/
def wkL (p : Int) (t : List (List Int)) (row : List Int) : Nat → List Int
  | 0 => row
  | k + 1 => movedL p (wkL p t row k) t
def walkL (p : Int) (n : Nat) (t : List (List Int)) (row : List Int) : List (List Int) := (List.range n).map (wkL p t row)
section
variable {p : Int} {n : Nat} {t : List (List Int)}
theorem wk_ok (hp : 0 < p) (ht : Tab p n t) {row : List Int} (hr : RowOk p n row) : ∀ k, RowOk p n (wkL p t row k)
  | 0 => hr
  | k + 1 => by
    have := movedL_ok hp (wkL p t row k) t
    rw [ht.len] at this
    exact this
theorem walk_ok (hp : 0 < p) (ht : Tab p n t) {row : List Int} (hr : RowOk p n row) : Tab p n (walkL p n t row) := ⟨by unfold walkL; rw [List.length_map, List.length_range], fun r h => by
  obtain ⟨k, _, rfl⟩ := List.mem_map.mp h
  exact ⟨(wk_ok hp ht hr k).len, (wk_ok hp ht hr k).rest⟩⟩
theorem walk_at {k : Nat} {row : List Int} (hk : k < n) : rowAt (walkL p n t row) k = wkL p t row k := by
  unfold walkL rowAt
  rw [getD_range _ _ hk]
theorem walk_succ (k : Nat) (row : List Int) : walkL p (k + 1) t row = walkL p k t row ++ [wkL p t row k] := by
  unfold walkL
  rw [List.range_succ, List.map_append]
  rfl
/-- three rows of three: not made of one another -/
theorem walk_full (R : Rnd p) (ht : Tab p n t) {row : List Int} (hr : RowOk p n row) : rankL p n (walkL p n t row) = n ↔ ∀ v, RowOk p n v → (∀ j, j < n → (zs n fun k => rz p v k * rz p (wkL p t row k) j) = 0) → ∀ k, k < n → rz p v k = 0 := by
  have W := walk_ok R.h.pos ht hr
  have iff := indep_iff R (walkL p n t row) W.rows
  rw [W.len] at iff
  rw [iff]
  constructor
  · intro h v hv q k hk
    rw [h v hv (row_extZ (linL_ok R.h.pos _ _) (zeroR_ok R.h.pos n) fun j hj => by
      rw [rz_lin hv.len W.len hj, rz_zero, ← q j hj]
      exact zs_congr fun k hk => by rw [walk_at hk]), rz_zero]
  · intro h v hv q
    refine row_extZ hv (zeroR_ok R.h.pos n) fun k hk => ?_
    rw [h v hv (fun j hj => ?_) k hk, rz_zero]
    have := congrArg (fun r => rz p r j) q
    have this : rz p (linL p n v (walkL p n t row)) j = rz p (zeroR n) j := this
    rw [rz_lin hv.len W.len hj, rz_zero] at this
    rw [← this]
    exact zs_congr fun k hk => by rw [walk_at hk]
theorem rz_wk (ht : Tab p n t) {row : List Int} (hr : RowOk p n row) (hp : 0 < p) (k : Nat) {j : Nat} (hj : j < n) : rz p (wkL p t row (k + 1)) j = zs n fun i => rz p (wkL p t row k) i * ez p t i j := rz_moved (wk_ok hp ht hr k).len ht.len hj
theorem zs3 (f : Nat → Zp p) : zs 3 f = f 0 + f 1 + f 2 := by
  show ((0 + f 0) + f 1) + f 2 = _
  grind
theorem zs2 (f : Nat → Zp p) : zs 2 f = f 0 + f 1 := by
  show (0 + f 0) + f 1 = _
  grind
theorem zs1 (f : Nat → Zp p) : zs 1 f = f 0 := by
  show 0 + f 0 = _
  grind
/-- the least rule as long as the own one: some row spans all -/
theorem cyc_ex (R : Rnd p) (ht : Tab p n t) (h1 : 1 ≤ n) (h3 : n ≤ 3) (hI : Ind p n t n) : ∃ row ∈ rowsA p n, rankL p n (walkL p n t row) = n := Decidable.byContradiction (dec := Classical.propDecidable _) fun none => by
  have hp := R.h.pos
  have no : ∀ x : Nat → Zp p, ¬ rankL p n (walkL p n t (rowZ p n x)) = n := fun x z => none ⟨_, rowsA_ok.mpr (rowZ_ok R n x), z⟩
  have : n = 1 ∨ n = 2 ∨ n = 3 := by omega
  rcases this with e | e | e <;> subst e
  · refine no (fun _ => 1) ((walk_full R ht (rowZ_ok R 1 _)).mpr fun v hv h k hk => ?_)
    have := h 0 (by omega)
    have e0 : rz p (wkL p t (rowZ p 1 fun _ => 1) 0) 0 = 1 := rz_rowZ (by omega)
    rw [zs1, e0] at this
    have : k = 0 := by omega
    subst this
    grind
  · have H : ∀ x : Nat → Zp p, x 0 * (x 0 * ez p t 0 1 + x 1 * ez p t 1 1) - x 1 * (x 0 * ez p t 0 0 + x 1 * ez p t 1 0) = 0 := fun x => Decidable.byContradiction (dec := Classical.propDecidable _) fun z => by
      refine no x ((walk_full R ht (rowZ_ok R 2 x)).mpr fun v hv h k hk => ?_)
      have q0 := h 0 (by omega)
      have q1 := h 1 (by omega)
      have w0 : ∀ j, j < 2 → rz p (wkL p t (rowZ p 2 x) 0) j = x j := fun j hj => rz_rowZ hj
      rw [zs2, rz_wk ht (rowZ_ok R 2 x) hp 0 (by omega), zs2, w0 0 (by omega), w0 1 (by omega)] at q0 q1
      have hk' : k = 0 ∨ k = 1 := by omega
      rcases hk' with e | e <;> subst e <;> grind
    have k0 := H (e3 0)
    have k1 := H (e3 1)
    have k2 := H fun _ => 1
    simp only [e3, reduceIte, Nat.reduceEqDiff, Nat.zero_ne_one, Nat.one_ne_zero] at k0 k1 k2
    have := hI (fun k => if k = 0 then -(ez p t 0 0) else 1) (fun i j hi hj => by
      unfold cb
      rw [zs2, ez_pw0 hi, ez_pw1 R ht]
      have hi' : i = 0 ∨ i = 1 := by omega
      have hj' : j = 0 ∨ j = 1 := by omega
      rcases hi' with e | e <;> subst e <;> rcases hj' with e | e <;> subst e <;> simp only [reduceIte, Nat.reduceEqDiff, Nat.zero_ne_one, Nat.one_ne_zero] <;> grind) 1 (by omega)
    have h01 := Zp.zno R
    simp only [Nat.one_ne_zero, reduceIte] at this
    exact h01 this.symm
  · have mv : ∀ (x : Nat → Zp p) (k : Nat) (y : Nat → Zp p), (∀ j, j < 3 → rz p (wkL p t (rowZ p 3 x) k) j = y j) → ∀ j, j < 3 → rz p (wkL p t (rowZ p 3 x) (k + 1)) j = mv3 (ez p t) y j := fun x k y h j hj => by
      rw [rz_wk ht (rowZ_ok R 3 x) hp k hj, zs3, h 0 (by omega), h 1 (by omega), h 2 (by omega)]
      rfl
    have H : ∀ x : Nat → Zp p, det3 x (mv3 (ez p t) x) (mv3 (ez p t) (mv3 (ez p t) x)) = 0 := fun x => Decidable.byContradiction (dec := Classical.propDecidable _) fun z => by
      have w0 : ∀ j, j < 3 → rz p (wkL p t (rowZ p 3 x) 0) j = x j := fun j hj => rz_rowZ hj
      have w1 := mv x 0 x w0
      have w2 := mv x 1 _ w1
      refine no x ((walk_full R ht (rowZ_ok R 3 x)).mpr fun v hv h k hk => ?_)
      have q0 := h 0 (by omega)
      have q1 := h 1 (by omega)
      have q2 := h 2 (by omega)
      rw [zs3, w0 _ (by omega), w1 _ (by omega), w2 _ (by omega)] at q0 q1 q2
      generalize mv3 (ez p t) (mv3 (ez p t) x) = z' at *
      generalize mv3 (ez p t) x = y' at *
      unfold det3 at z
      have hk' : k = 0 ∨ k = 1 ∨ k = 2 := by omega
      rcases hk' with e | e | e <;> subst e <;> grind
    obtain ⟨c0, c1, c2, ne, q⟩ := no_cyc H
    have := hI (fun k => if k = 0 then c0 else if k = 1 then c1 else c2) (fun i j hi hj => by
      have e0 : mv3 (ez p t) (e3 i) j = ez p t i j := by
        unfold mv3 e3
        have hi' : i = 0 ∨ i = 1 ∨ i = 2 := by omega
        rcases hi' with e | e | e <;> subst e <;> simp only [reduceIte, Nat.reduceEqDiff, Nat.zero_ne_one, Nat.one_ne_zero] <;> grind
      have e0' : ∀ j, j < 3 → mv3 (ez p t) (e3 i) j = ez p t i j := fun j _ => by
        unfold mv3 e3
        have hi' : i = 0 ∨ i = 1 ∨ i = 2 := by omega
        rcases hi' with e | e | e <;> subst e <;> simp only [reduceIte, Nat.reduceEqDiff, Nat.zero_ne_one, Nat.one_ne_zero] <;> grind
      have q := q (e3 i) j hj
      rw [e0, mv3_congr e0' j] at q
      unfold cb
      rw [zs3, ez_pw0 hi, ez_pw1 R ht, ez_pwS R ht 1 hi hj, zs3, ez_pw1 R ht, ez_pw1 R ht, ez_pw1 R ht]
      unfold mv3 e3 at q
      simp only [reduceIte, Nat.reduceEqDiff, Nat.zero_ne_one, Nat.one_ne_zero]
      exact q)
    have h0 := this 0 (by omega)
    have h1 := this 1 (by omega)
    have h2 := this 2 (by omega)
    simp only [reduceIte, Nat.reduceEqDiff, Nat.zero_ne_one, Nat.one_ne_zero] at h0 h1 h2
    exact ne ⟨h0, h1, h2⟩
end
/-! ### the own rule -/
def trI (n : Nat) (t : List (List Int)) : Int := sm n fun i => ent t i i
def pairT (t : List (List Int)) (a b : Nat) : List (List Int) := [[ent t a a, ent t a b], [ent t b a, ent t b b]]
def prI (p : Int) (t : List (List Int)) : Int := wP p 1 (pairT t 0 1) + wP p 1 (pairT t 0 2) + wP p 1 (pairT t 1 2)
def ownL (p : Int) (n : Nat) (t : List (List Int)) : List Int := match n with
  | 1 => [-(wP p 0 t) % p, 1]
  | 2 => [wP p 1 t, -(trI 2 t) % p, 1]
  | _ => [-(wP p 2 t) % p, prI p t % p, -(trI 3 t) % p, 1]
/-- so many times the unit less a table -/
def lessT (p : Int) (n : Nat) (t : List (List Int)) (r : Int) : List (List Int) := (List.range n).map fun i => (List.range n).map fun j => if i = j then (-(ent t i j) % p + r) % p else -(ent t i j) % p
section
variable {p : Int} {n : Nat} {t : List (List Int)}
theorem mk_wI1 (t : List (List Int)) : Zp.mk p (wI 1 t) = ez p t 0 0 * ez p (minorL t 0) 0 0 - ez p t 0 1 * ez p (minorL t 1) 0 0 := by
  show Zp.mk p (sm 2 fun i => sgnL i * ent t 0 i * wI 0 (minorL t i)) = _
  rw [mk_sm, zs2]
  show (1 * ez p t 0 0 * ez p (minorL t 0) 0 0 + -1 * ez p t 0 1 * ez p (minorL t 1) 0 0 : Zp p) = _
  grind
theorem mk_wI2 (t : List (List Int)) : Zp.mk p (wI 2 t) = ez p t 0 0 * Zp.mk p (wI 1 (minorL t 0)) - ez p t 0 1 * Zp.mk p (wI 1 (minorL t 1)) + ez p t 0 2 * Zp.mk p (wI 1 (minorL t 2)) := by
  show Zp.mk p (sm 3 fun i => sgnL i * ent t 0 i * wI 1 (minorL t i)) = _
  rw [mk_sm, zs3]
  show (((1 * ez p t 0 0 * Zp.mk p (wI 1 (minorL t 0))) + -1 * ez p t 0 1 * Zp.mk p (wI 1 (minorL t 1))) + 1 * ez p t 0 2 * Zp.mk p (wI 1 (minorL t 2)) : Zp p) = _
  grind
theorem ez_minor (ht : Tab p (n + 1) t) {i k j : Nat} (hi : i < n + 1) (hk : k < n) (hj : j < n) : ez p (minorL t i) k j = ez p t (k + 1) (if j < i then j else j + 1) := by
  show Zp.mk p _ = Zp.mk p _
  congr 1
  have hr := ht.row _ (rowAt_mem (rows := t) (i := k + 1) (by rw [ht.len]; omega))
  unfold minorL
  have e : rowAt ((t.drop 1).map fun row => row.take i ++ row.drop (i + 1)) k = (rowAt t (k + 1)).take i ++ (rowAt t (k + 1)).drop (i + 1) := by
    unfold rowAt
    rw [List.getD_eq_getElem?_getD, List.getElem?_map, List.getElem?_drop, Nat.add_comm 1 k, List.getD_eq_getElem?_getD, List.getElem?_eq_getElem (by rw [ht.len]; omega)]
    rfl
  rw [e, List.getD_eq_getElem?_getD, List.getD_eq_getElem?_getD]
  by_cases q : j < i
  · rw [if_pos q, List.getElem?_append_left (by rw [List.length_take, hr.1]; omega), List.getElem?_take_of_lt q]
  · rw [if_neg q, List.getElem?_append_right (by rw [List.length_take, hr.1]; omega), List.length_take, hr.1, List.getElem?_drop, show i + 1 + (j - min i (n + 1)) = j + 1 from by omega]
theorem mk_w2 (ht : Tab p 2 t) : Zp.mk p (wI 1 t) = ez p t 0 0 * ez p t 1 1 - ez p t 0 1 * ez p t 1 0 := by
  rw [mk_wI1, ez_minor ht (by omega) (by omega) (by omega), ez_minor ht (by omega) (by omega) (by omega)]
  rfl
theorem mk_w3 (ht : Tab p 3 t) : Zp.mk p (wI 2 t) = ez p t 0 0 * (ez p t 1 1 * ez p t 2 2 - ez p t 1 2 * ez p t 2 1) - ez p t 0 1 * (ez p t 1 0 * ez p t 2 2 - ez p t 1 2 * ez p t 2 0) + ez p t 0 2 * (ez p t 1 0 * ez p t 2 1 - ez p t 1 1 * ez p t 2 0) := by
  rw [mk_wI2, mk_w2 (minor_ok ht (i := 0) (by omega)), mk_w2 (minor_ok ht (i := 1) (by omega)), mk_w2 (minor_ok ht (i := 2) (by omega))]
  have e : ∀ i k j, i < 3 → k < 2 → j < 2 → ez p (minorL t i) k j = ez p t (k + 1) (if j < i then j else j + 1) := fun i k j hi hk hj => ez_minor ht hi hk hj
  rw [e 0 0 0 (by omega) (by omega) (by omega), e 0 0 1 (by omega) (by omega) (by omega), e 0 1 0 (by omega) (by omega) (by omega), e 0 1 1 (by omega) (by omega) (by omega), e 1 0 0 (by omega) (by omega) (by omega), e 1 0 1 (by omega) (by omega) (by omega), e 1 1 0 (by omega) (by omega) (by omega), e 1 1 1 (by omega) (by omega) (by omega), e 2 0 0 (by omega) (by omega) (by omega), e 2 0 1 (by omega) (by omega) (by omega), e 2 1 0 (by omega) (by omega) (by omega), e 2 1 1 (by omega) (by omega) (by omega)]
  simp only [reduceIte, Nat.reduceLT, Nat.reduceAdd, Nat.not_lt_zero, Nat.lt_irrefl, Nat.zero_lt_one]
theorem pair_ok (ht : Tab p 3 t) {a b : Nat} (ha : a < 3) (hb : b < 3) : Tab p 2 (pairT t a b) := by
  have h1 := ht.ent ha ha
  have h2 := ht.ent ha hb
  have h3 := ht.ent hb ha
  have h4 := ht.ent hb hb
  refine ⟨rfl, fun r hr => ?_⟩
  unfold pairT at hr
  simp only [List.mem_cons, List.not_mem_nil, or_false] at hr
  rcases hr with rfl | rfl
  · refine ⟨rfl, fun x hx => ?_⟩
    simp only [List.mem_cons, List.not_mem_nil, or_false] at hx
    rcases hx with rfl | rfl <;> assumption
  · refine ⟨rfl, fun x hx => ?_⟩
    simp only [List.mem_cons, List.not_mem_nil, or_false] at hx
    rcases hx with rfl | rfl <;> assumption
theorem mk_wP (k : Nat) (t : List (List Int)) : Zp.mk p (wP p k t) = Zp.mk p (wI k t) := by rw [wP_wI, Zp.mk_mod]
theorem mk_tr (n : Nat) : Zp.mk p (trI n t) = zs n fun i => ez p t i i := mk_sm n _
theorem own_len (h1 : 1 ≤ n) (h3 : n ≤ 3) : (ownL p n t).length = n + 1 := by
  have : n = 1 ∨ n = 2 ∨ n = 3 := by omega
  rcases this with e | e | e <;> subst e <;> rfl
theorem own_rz (R : Rnd p) (ht : Tab p n t) (h1 : 1 ≤ n) (h3 : n ≤ 3) {k : Nat} (hk : k ≤ n) : rz p (ownL p n t) k = if k = n then 1 else -ownC p n t k := by
  have : n = 1 ∨ n = 2 ∨ n = 3 := by omega
  rcases this with e | e | e <;> subst e
  · have : k = 0 ∨ k = 1 := by omega
    rcases this with e | e <;> subst e
    · show Zp.mk p (-(wP p 0 t) % p) = -ez p t 0 0
      rw [Zp.mk_mod, Zp.mk_neg, mk_wP]
      rfl
    · rfl
  · have : k = 0 ∨ k = 1 ∨ k = 2 := by omega
    rcases this with e | e | e <;> subst e
    · show Zp.mk p (wP p 1 t) = - -(ez p t 0 0 * ez p t 1 1 - ez p t 0 1 * ez p t 1 0)
      rw [mk_wP, mk_w2 ht]
      grind
    · show Zp.mk p (-(trI 2 t) % p) = -(ez p t 0 0 + ez p t 1 1)
      rw [Zp.mk_mod, Zp.mk_neg, mk_tr, zs2]
    · rfl
  · have : k = 0 ∨ k = 1 ∨ k = 2 ∨ k = 3 := by omega
    rcases this with e | e | e | e <;> subst e
    · show Zp.mk p (-(wP p 2 t) % p) = -(ez p t 0 0 * (ez p t 1 1 * ez p t 2 2 - ez p t 1 2 * ez p t 2 1) - ez p t 0 1 * (ez p t 1 0 * ez p t 2 2 - ez p t 1 2 * ez p t 2 0) + ez p t 0 2 * (ez p t 1 0 * ez p t 2 1 - ez p t 1 1 * ez p t 2 0))
      rw [Zp.mk_mod, Zp.mk_neg, mk_wP, mk_w3 ht]
    · show Zp.mk p (prI p t % p) = - -((ez p t 0 0 * ez p t 1 1 - ez p t 0 1 * ez p t 1 0) + (ez p t 0 0 * ez p t 2 2 - ez p t 0 2 * ez p t 2 0) + (ez p t 1 1 * ez p t 2 2 - ez p t 1 2 * ez p t 2 1))
      rw [Zp.mk_mod]
      unfold prI
      rw [Zp.mk_add, Zp.mk_add, mk_wP, mk_wP, mk_wP, mk_w2 (pair_ok ht (by omega) (by omega)), mk_w2 (pair_ok ht (by omega) (by omega)), mk_w2 (pair_ok ht (by omega) (by omega))]
      show (ez p t 0 0 * ez p t 1 1 - ez p t 0 1 * ez p t 1 0) + (ez p t 0 0 * ez p t 2 2 - ez p t 0 2 * ez p t 2 0) + (ez p t 1 1 * ez p t 2 2 - ez p t 1 2 * ez p t 2 1) = _
      grind
    · show Zp.mk p (-(trI 3 t) % p) = -(ez p t 0 0 + ez p t 1 1 + ez p t 2 2)
      rw [Zp.mk_mod, Zp.mk_neg, mk_tr, zs3]
    · rfl
theorem own_ok (R : Rnd p) (h1 : 1 ≤ n) (h3 : n ≤ 3) : RowOk p (n + 1) (ownL p n t) := ⟨own_len h1 h3, fun x hx => by
  have hp := R.h.two
  have m : ∀ a : Int, 0 ≤ a % p ∧ a % p < p := fun a => ⟨Int.emod_nonneg _ (by omega), Int.emod_lt_of_pos _ (by omega)⟩
  have : n = 1 ∨ n = 2 ∨ n = 3 := by omega
  rcases this with e | e | e <;> subst e
  · have hx : x ∈ [-(wP p 0 t) % p, 1] := hx
    simp only [List.mem_cons, List.not_mem_nil, or_false] at hx
    rcases hx with rfl | rfl
    · exact m _
    · omega
  · have hx : x ∈ [wP p 1 t, -(trI 2 t) % p, 1] := hx
    simp only [List.mem_cons, List.not_mem_nil, or_false] at hx
    rcases hx with rfl | rfl | rfl
    · rw [wP_wI]
      exact m _
    · exact m _
    · omega
  · have hx : x ∈ [-(wP p 2 t) % p, prI p t % p, -(trI 3 t) % p, 1] := hx
    simp only [List.mem_cons, List.not_mem_nil, or_false] at hx
    rcases hx with rfl | rfl | rfl | rfl
    · exact m _
    · exact m _
    · exact m _
    · omega⟩
theorem own_kl (R : Rnd p) (ht : Tab p n t) (h1 : 1 ≤ n) (h3 : n ≤ 3) : Kl p n t (ownL p n t) := fun i j hi hj => by
  have := own_zero R ht h1 h3 i j hi hj
  rw [own_len h1 h3]
  unfold cb
  rw [zs_succ, own_rz R ht h1 h3 (Nat.le_refl n), if_pos rfl, zs_congr (g := fun k => (-1) * (ownC p n t k * ez p (pwL p n t k) i j)) fun k hk => by
    rw [own_rz R ht h1 h3 (by omega), if_neg (by omega)]
    grind, zs_mulL, this]
  grind
theorem less_tab (hp : 0 < p) (r : Int) : Tab p n (lessT p n t r) := ⟨by unfold lessT; rw [List.length_map, List.length_range], fun q hq => by
  obtain ⟨i, _, rfl⟩ := List.mem_map.mp hq
  refine ⟨by rw [List.length_map, List.length_range], fun x hx => ?_⟩
  obtain ⟨j, _, rfl⟩ := List.mem_map.mp hx
  show 0 ≤ (if i = j then _ else _) ∧ (if i = j then _ else _) < p
  split
  · exact ⟨Int.emod_nonneg _ (by omega), Int.emod_lt_of_pos _ hp⟩
  · exact ⟨Int.emod_nonneg _ (by omega), Int.emod_lt_of_pos _ hp⟩⟩
theorem ez_less {r : Int} {i j : Nat} (hi : i < n) (hj : j < n) : ez p (lessT p n t r) i j = (if i = j then Zp.mk p r else 0) - ez p t i j := by
  show Zp.mk p ((rowAt (lessT p n t r) i).getD j 0) = _
  unfold lessT rowAt
  rw [getD_range _ _ hi, getD_range _ _ hj]
  by_cases e : i = j
  · rw [if_pos e, if_pos e, Zp.mk_mod, Zp.mk_add, Zp.mk_mod, Zp.mk_neg]
    show -ez p t i j + Zp.mk p r = _
    grind
  · rw [if_neg e, if_neg e, Zp.mk_mod, Zp.mk_neg]
    show -ez p t i j = _
    grind
theorem one_tab (hp : 0 < p) {r : Int} (h : 0 ≤ r ∧ r < p) : Tab p 1 [[r]] := ⟨rfl, fun q hq => by
  rw [List.mem_singleton.mp hq]
  exact ⟨rfl, fun x hx => by rw [List.mem_singleton.mp hx]; exact h⟩⟩
/-- the own rule tells what so many times the unit less the table is worth -/
theorem own_worth (R : Rnd p) (ht : Tab p n t) (h1 : 1 ≤ n) (h3 : n ≤ 3) {r : Int} (hr : 0 ≤ r ∧ r < p) : wI (n - 1) (lessT p n t r) % p = ent (ruleT p 1 [[r]] (ownL p n t)) 0 0 := by
  have hp := R.h.pos
  have o1 := one_tab hp hr
  have key : Zp.mk p (wI (n - 1) (lessT p n t r)) = ez p (ruleT p 1 [[r]] (ownL p n t)) 0 0 := by
    have e1 : ez p [[r]] 0 0 = Zp.mk p r := rfl
    have p0 : ez p (pwL p 1 [[r]] 0) 0 0 = 1 := by rw [ez_pw0 (by omega), if_pos rfl]
    have p1 : ez p (pwL p 1 [[r]] 1) 0 0 = Zp.mk p r := by rw [ez_pw1 R o1, e1]
    have p2 : ez p (pwL p 1 [[r]] 2) 0 0 = Zp.mk p r * Zp.mk p r := by rw [ez_pwS R o1 1 (by omega) (by omega), zs1, p1, e1]
    have p3 : ez p (pwL p 1 [[r]] 3) 0 0 = Zp.mk p r * Zp.mk p r * Zp.mk p r := by rw [ez_pwS R o1 2 (by omega) (by omega), zs1, p2, e1]
    rw [ez_ruleT (by omega) (by omega), own_len h1 h3]
    unfold cb
    have L := less_tab (n := n) (t := t) hp r
    have ow := fun k (hk : k ≤ n) => own_rz R ht h1 h3 hk
    have : n = 1 ∨ n = 2 ∨ n = 3 := by omega
    rcases this with e | e | e <;> subst e
    · rw [zs2, ow 0 (by omega), ow 1 (by omega), p0, p1]
      show ez p (lessT p 1 t r) 0 0 = -ez p t 0 0 * 1 + 1 * Zp.mk p r
      rw [ez_less (by omega) (by omega), if_pos rfl]
      grind
    · rw [zs3, ow 0 (by omega), ow 1 (by omega), ow 2 (by omega), p0, p1, p2]
      show Zp.mk p (wI 1 _) = -(-(ez p t 0 0 * ez p t 1 1 - ez p t 0 1 * ez p t 1 0)) * 1 + -(ez p t 0 0 + ez p t 1 1) * Zp.mk p r + 1 * (Zp.mk p r * Zp.mk p r)
      rw [mk_w2 L]
      have z := fun i j (hi : i < 2) (hj : j < 2) => ez_less (p := p) (t := t) (r := r) hi hj
      rw [z 0 0 (by omega) (by omega), z 0 1 (by omega) (by omega), z 1 0 (by omega) (by omega), z 1 1 (by omega) (by omega)]
      simp only [reduceIte, Nat.zero_ne_one, Nat.one_ne_zero]
      grind
    · have z4 : ∀ f : Nat → Zp p, zs 4 f = f 0 + f 1 + f 2 + f 3 := fun f => by
        rw [zs_succ, zs3]
      rw [z4, ow 0 (by omega), ow 1 (by omega), ow 2 (by omega), ow 3 (by omega), p0, p1, p2, p3]
      show Zp.mk p (wI 2 _) = -(ez p t 0 0 * (ez p t 1 1 * ez p t 2 2 - ez p t 1 2 * ez p t 2 1) - ez p t 0 1 * (ez p t 1 0 * ez p t 2 2 - ez p t 1 2 * ez p t 2 0) + ez p t 0 2 * (ez p t 1 0 * ez p t 2 1 - ez p t 1 1 * ez p t 2 0)) * 1 + -(-((ez p t 0 0 * ez p t 1 1 - ez p t 0 1 * ez p t 1 0) + (ez p t 0 0 * ez p t 2 2 - ez p t 0 2 * ez p t 2 0) + (ez p t 1 1 * ez p t 2 2 - ez p t 1 2 * ez p t 2 1))) * Zp.mk p r + -(ez p t 0 0 + ez p t 1 1 + ez p t 2 2) * (Zp.mk p r * Zp.mk p r) + 1 * (Zp.mk p r * Zp.mk p r * Zp.mk p r)
      rw [mk_w3 L]
      have z := fun i j (hi : i < 3) (hj : j < 3) => ez_less (p := p) (t := t) (r := r) hi hj
      rw [z 0 0 (by omega) (by omega), z 0 1 (by omega) (by omega), z 0 2 (by omega) (by omega), z 1 0 (by omega) (by omega), z 1 1 (by omega) (by omega), z 1 2 (by omega) (by omega), z 2 0 (by omega) (by omega), z 2 1 (by omega) (by omega), z 2 2 (by omega) (by omega)]
      simp only [reduceIte, Nat.reduceEqDiff, Nat.zero_ne_one, Nat.one_ne_zero]
      grind
  have T := ruleT_ok (n := 1) (t := [[r]]) hp (ownL p n t)
  have e := T.ent (i := 0) (j := 0) (by omega) (by omega)
  have := Zp.exact key
  rw [this]
  exact Int.emod_eq_of_lt e.1 e.2
end
/-! ### all rows, in order -/
def rowsP (p : Int) : Nat → List (List Int)
  | 0 => [[]]
  | n + 1 => ((rowsP p n).map fun r => (List.range p.toNat).map fun (x : Nat) => r ++ [(x : Int)]).flatten
section
variable {p : Int} {n : Nat} {t : List (List Int)}
theorem rowsP_mem : ∀ {n : Nat} {r : List Int}, r ∈ rowsP p n ↔ RowOk p n r
  | 0, r => by
    show r ∈ [[]] ↔ _
    rw [List.mem_singleton]
    exact ⟨fun h => by rw [h]; exact ⟨rfl, fun x hx => nomatch hx⟩, fun h => List.length_eq_zero_iff.mp h.len⟩
  | n + 1, r => by
    show r ∈ ((rowsP p n).map fun r => (List.range p.toNat).map fun (x : Nat) => r ++ [(x : Int)]).flatten ↔ _
    rw [List.mem_flatten]
    constructor
    · rintro ⟨l, hl, hr⟩
      obtain ⟨q, hq, rfl⟩ := List.mem_map.mp hl
      obtain ⟨x, hx, rfl⟩ := List.mem_map.mp hr
      have := List.mem_range.mp hx
      exact (rowsP_mem.mp hq).snoc (by omega) (by omega)
    · intro h
      obtain ⟨u, c, rfl, hu, h0, h1⟩ := h.unsnoc
      exact ⟨_, List.mem_map.mpr ⟨u, rowsP_mem.mpr hu, rfl⟩, List.mem_map.mpr ⟨c.toNat, List.mem_range.mpr (by omega), by rw [Int.toNat_of_nonneg h0]⟩⟩
theorem flat_blocks {α β : Type} (f : α → List β) (k : Nat) (hf : ∀ a, (f a).length = k) : ∀ xs : List α, ((xs.map f).flatten).length = xs.length * k
  | [] => by simp
  | a :: xs => by
    rw [List.map_cons, List.flatten_cons, List.length_append, hf, flat_blocks f k hf xs, List.length_cons, Nat.succ_mul]
    omega
theorem rowsP_len : ∀ n : Nat, (rowsP p n).length = p.toNat ^ n
  | 0 => rfl
  | n + 1 => by
    show (((rowsP p n).map _).flatten).length = _
    rw [flat_blocks _ p.toNat (fun r => by rw [List.length_map, List.length_range]), rowsP_len n, Nat.pow_succ]
/-- the first row that spans all -/
def spanB (p : Int) (n : Nat) (t : List (List Int)) (r : List Int) : Bool := decide (rankL p n (walkL p n t r) = n)
def cycL (p : Int) (n : Nat) (t : List (List Int)) : List Int := ((rowsP p n).find? (spanB p n t)).getD []
theorem cyc_some (R : Rnd p) (ht : Tab p n t) (h1 : 1 ≤ n) (h3 : n ≤ 3) (hI : Ind p n t n) : (rowsP p n).find? (spanB p n t) = some (cycL p n t) := by
  unfold cycL
  cases e : (rowsP p n).find? (spanB p n t) with
  | some r => rfl
  | none =>
    obtain ⟨row, hr, hs⟩ := cyc_ex R ht h1 h3 hI
    have := List.find?_eq_none.mp e row (rowsP_mem.mpr (rowsA_ok.mp hr))
    exact absurd (decide_eq_true hs) this
theorem len_least (R : Rnd p) (ht : Tab p n t) (h1 : 1 ≤ n) (h3 : n ≤ 3) : (leastL p n t).length ≤ n ∨ (leastL p n t).length = n + 1 ∧ Ind p n t n := by
  obtain ⟨d, u, L, e⟩ := leastL_ok R ht h1 h3
  rw [e, List.length_append, L.ok.len]
  have := L.dn
  by_cases q : d = n
  · subst q
    exact .inr ⟨rfl, L.ind⟩
  · exact .inl (show d + 1 ≤ n by omega)
/-- whether it is a rule -/
def isRule (p : Int) (r : List Int) : Bool := !decide (r = []) && (isRow p r r.length && decide (r.getD (r.length - 1) 0 = 1))
theorem isRule_ok {r : List Int} (h : isRule p r = true) : ∃ u, r = u ++ [1] ∧ RowOk p r.length r := by
  unfold isRule at h
  simp only [Bool.and_eq_true, Bool.not_eq_true', decide_eq_false_iff_not, decide_eq_true_eq] at h
  obtain ⟨a, b, c⟩ := h
  refine ⟨r.dropLast, ?_, isRow_ok b⟩
  have hl : 0 < r.length := List.length_pos_iff.mpr a
  rw [List.getD_eq_getElem?_getD, List.getElem?_eq_getElem (by omega)] at c
  have g := List.dropLast_concat_getLast a
  rw [List.getLast_eq_getElem] at g
  have c' : r[r.length - 1] = 1 := by simpa using c
  rw [c'] at g
  exact g.symm
theorem ruleT_nil (h : t.length = n) : ruleT p n t [] = t.map fun _ => List.replicate n 0 := by
  unfold ruleT
  refine List.ext_getElem (by rw [List.length_map, List.length_map, List.length_range, h]) fun i h1 h2 => ?_
  rw [List.getElem_map, List.getElem_map]
  refine List.eq_replicate_of_mem (fun x hx => ?_) |>.trans (by rw [List.length_map, List.length_range])
  obtain ⟨j, _, rfl⟩ := List.mem_map.mp hx
  rfl
theorem ez_tog {a b : List (List Int)} (ha : Tab p n a) (hb : Tab p n b) (c : Int) {i j : Nat} (hi : i < n) : ez p (togetherL p a b c) i j = ez p a i j + Zp.mk p c * ez p b i j := by
  have e : rowAt (togetherL p a b c) i = addL p (rowAt b i) c (rowAt a i) := by
    unfold togetherL rowAt
    rw [List.getD_eq_getElem?_getD, List.getElem?_map, List.getElem?_eq_getElem (by rw [List.length_zip, ha.len, hb.len]; omega), List.getElem_zip, List.getD_eq_getElem?_getD, List.getD_eq_getElem?_getD, List.getElem?_eq_getElem (by rw [hb.len]; exact hi), List.getElem?_eq_getElem (by rw [ha.len]; exact hi)]
    rfl
  show rz p (rowAt (togetherL p a b c) i) j = _
  rw [e, rz_addL (by rw [(hb.row _ (rowAt_mem (by rw [hb.len]; exact hi))).1, (ha.row _ (rowAt_mem (by rw [ha.len]; exact hi))).1])]
  rfl
theorem tog_tab (hp : 0 < p) {a b : List (List Int)} (ha : Tab p n a) (hb : Tab p n b) (c : Int) : Tab p n (togetherL p a b c) := ⟨by unfold togetherL; rw [List.length_map, List.length_zip, ha.len, hb.len, Nat.min_self], fun r hr => by
  obtain ⟨q, hq, rfl⟩ := List.mem_map.mp hr
  have h1 := ha.row _ (List.of_mem_zip hq).1
  have h2 := hb.row _ (List.of_mem_zip hq).2
  refine ⟨by rw [List.length_map, List.length_zip, h1.1, h2.1, Nat.min_self], fun x hx => ?_⟩
  obtain ⟨z, _, rfl⟩ := List.mem_map.mp hx
  exact ⟨Int.emod_nonneg _ (by omega), Int.emod_lt_of_pos _ hp⟩⟩
/-- the next rest -/
theorem ruleT_snoc (R : Rnd p) (ht : Tab p n t) (r : List Int) (x : Int) : togetherL p (ruleT p n t r) (pwL p n t r.length) x = ruleT p n t (r ++ [x]) := by
  have hp := R.h.pos
  have a := ruleT_ok (n := n) (t := t) hp r
  have b := pw_ok R.h.two ht r.length
  refine tab_extZ (tog_tab hp a b x) (ruleT_ok hp _) fun i j hi hj => ?_
  rw [ez_tog a b x hi, ez_ruleT hi hj, ez_ruleT hi hj]
  unfold cb
  rw [List.length_append]
  show _ = zs (r.length + 1) _
  rw [zs_succ, rz_app rfl, if_neg (by omega), if_pos rfl, zs_congr (n := r.length) (f := fun k => rz p (r ++ [x]) k * ez p (pwL p n t k) i j) (g := fun k => rz p r k * ez p (pwL p n t k) i j) fun k hk => by rw [rz_app rfl, if_pos hk]]
/-- from the last rest on -/
def diagL (p : Int) (n : Nat) (t : List (List Int)) (x : Int) : List (List Int) := (List.range n).map fun i => (List.range n).map fun j => if i = j then (ent t i j + x) % p else ent t i j
theorem diag_tab (hp : 0 < p) (ht : Tab p n t) (x : Int) : Tab p n (diagL p n t x) := ⟨by unfold diagL; rw [List.length_map, List.length_range], fun q hq => by
  obtain ⟨i, hi, rfl⟩ := List.mem_map.mp hq
  refine ⟨by rw [List.length_map, List.length_range], fun y hy => ?_⟩
  obtain ⟨j, hj, rfl⟩ := List.mem_map.mp hy
  show 0 ≤ (if i = j then _ else _) ∧ (if i = j then _ else _) < p
  split
  · exact ⟨Int.emod_nonneg _ (by omega), Int.emod_lt_of_pos _ hp⟩
  · exact ht.ent (List.mem_range.mp hi) (List.mem_range.mp hj)⟩
theorem ez_diag {x : Int} {i j : Nat} (hi : i < n) (hj : j < n) : ez p (diagL p n t x) i j = ez p t i j + if i = j then Zp.mk p x else 0 := by
  show Zp.mk p ((rowAt (diagL p n t x) i).getD j 0) = _
  unfold diagL rowAt
  rw [getD_range _ _ hi, getD_range _ _ hj]
  by_cases e : i = j
  · rw [if_pos e, if_pos e, Zp.mk_mod, Zp.mk_add]
    rfl
  · rw [if_neg e, if_neg e]
    show ez p t i j = _
    grind
theorem ruleT_cons (R : Rnd p) (ht : Tab p n t) (x : Int) (r : List Int) : diagL p n (behindL p (ruleT p n t r) t) x = ruleT p n t (x :: r) := by
  have hp := R.h.pos
  have a := ruleT_ok (n := n) (t := t) hp r
  have b := behindL_ok (p := p) hp a.len ht.len
  refine tab_extZ (diag_tab hp b x) (ruleT_ok hp _) fun i j hi hj => ?_
  rw [ez_diag hi hj, ez_behind a ht hi hj, ez_ruleT hi hj]
  unfold cb
  rw [List.length_cons, zs_congr (n := n) (g := fun k => zs r.length fun l => rz p r l * (ez p (pwL p n t l) i k * ez p t k j)) fun k hk => by
    rw [ez_ruleT hi hk]
    unfold cb
    rw [← zs_mulR]
    exact zs_congr fun l _ => by grind, zs_swap]
  rw [zs_congr (n := r.length) (g := fun l => rz p r l * ez p (pwL p n t (l + 1)) i j) fun l _ => by rw [zs_mulL, ← ez_pwS R ht l hi hj]]
  have sh : ∀ (m : Nat) (f : Nat → Zp p), zs (m + 1) f = f 0 + zs m fun k => f (k + 1) := fun m f => by
    induction m with
    | zero =>
      show 0 + f 0 = f 0 + 0
      grind
    | succ m ih =>
      rw [zs_succ, ih, zs_succ]
      grind
  rw [sh, ez_pw0 hi]
  show _ = Zp.mk p x * _ + zs r.length fun k => rz p r k * ez p (pwL p n t (k + 1)) i j
  by_cases e : i = j
  · rw [if_pos e, if_pos e]
    grind
  · rw [if_neg e, if_neg e]
    grind
end
/-! ### rows in order; the least rule shown -/
section
variable {p : Int} {n : Nat} {t : List (List Int)}
theorem lt_app : ∀ {r s : List Int}, r.length = s.length → r < s → ∀ a b : List Int, r ++ a < s ++ b
  | [], [], _, h, _, _ => absurd h (List.lt_irrefl _)
  | [], y :: s, h, _, _, _ => by cases h
  | x :: r, [], h, _, _, _ => by cases h
  | x :: r, y :: s, hl, h, a, b => by
    rw [List.cons_lt_cons_iff] at h
    show x :: (r ++ a) < y :: (s ++ b)
    rw [List.cons_lt_cons_iff]
    rcases h with h | ⟨h1, h2⟩
    · exact .inl h
    · exact .inr ⟨h1, lt_app (Nat.succ.inj hl) h2 a b⟩
theorem lt_appL : ∀ (r : List Int) {x y : Int}, x < y → r ++ [x] < r ++ [y]
  | [], x, y, h => by
    show [x] < [y]
    rw [List.cons_lt_cons_iff]
    exact .inl h
  | z :: r, x, y, h => by
    show z :: (r ++ [x]) < z :: (r ++ [y])
    rw [List.cons_lt_cons_iff]
    exact .inr ⟨rfl, lt_appL r h⟩
theorem rowsP_sorted : ∀ n : Nat, (rowsP p n).Pairwise (· < ·)
  | 0 => List.pairwise_singleton _ _
  | n + 1 => by
    have ih := rowsP_sorted n
    show (((rowsP p n).map fun r => (List.range p.toNat).map fun (x : Nat) => r ++ [(x : Int)]).flatten).Pairwise (· < ·)
    rw [List.pairwise_flatten]
    constructor
    · intro l hl
      obtain ⟨r, _, rfl⟩ := List.mem_map.mp hl
      rw [List.pairwise_map]
      exact List.pairwise_lt_range.imp fun h => lt_appL r (by omega)
    · rw [List.pairwise_map]
      refine (List.Pairwise.and_mem.mp ih).imp fun h => ?_
      obtain ⟨h1, h2, h3⟩ := h
      intro x hx y hy
      obtain ⟨a, _, rfl⟩ := List.mem_map.mp hx
      obtain ⟨b, _, rfl⟩ := List.mem_map.mp hy
      exact lt_app (by rw [(rowsP_mem.mp h1).len, (rowsP_mem.mp h2).len]) h3 _ _
/-- none ahead of the first one spans all -/
theorem cyc_first {c : List Int} (h : (rowsP p n).find? (spanB p n t) = some c) {r : List Int} (hr : r ∈ rowsP p n) (lt : r < c) : spanB p n t r = false := by
  obtain ⟨_, as, bs, e, ha⟩ := List.find?_eq_some_iff_append.mp h
  have so := rowsP_sorted (p := p) n
  rw [e] at hr so
  rcases List.mem_append.mp hr with z | z
  · simpa using ha r z
  · rcases List.mem_cons.mp z with z | z
    · subst z
      exact absurd lt (List.lt_irrefl _)
    · have := (List.pairwise_cons.mp (List.pairwise_append.mp so).2.1).1 r z
      exact absurd (List.lt_trans this lt) (List.lt_irrefl _)
theorem short_law (R : Rnd p) (ht : Tab p n t) (h1 : 1 ≤ n) (h3 : n ≤ 3) (r : List Int) : (isRule p r && decide (r.length ≤ n) && (nilB (ruleT p n t r) && decide (rankL p (n * n) (powsL p n t (r.length - 1)) = r.length - 1))) = (decide (r = leastL p n t) && decide (r.length ≤ n)) := by
  have hp := R.h.pos
  rw [Bool.eq_iff_iff]
  simp only [Bool.and_eq_true, decide_eq_true_eq]
  constructor
  · rintro ⟨⟨a, b⟩, c, d⟩
    obtain ⟨u, rfl, ok⟩ := isRule_ok a
    have hl : (u ++ [1]).length = u.length + 1 := by rw [List.length_append]; rfl
    have hu : RowOk p u.length u := ⟨rfl, fun x hx => ok.rest x (List.mem_append_left _ hx)⟩
    have ind := (rank_ind R ht h1 _).mp d
    rw [hl, Nat.add_sub_cancel] at ind
    have kl := (kl_iff hp _).mp c
    have hd1 : 1 ≤ u.length := Decidable.byContradiction fun z => by
      have e : u = [] := List.length_eq_zero_iff.mp (by omega)
      subst e
      exact kill_dep R rfl kl (ind_1 h1)
    have L : LeastAt p n t u.length u := ⟨hu, hd1, by omega, kl, ind⟩
    exact ⟨(L.is R ht h1 h3).symm, b⟩
  · rintro ⟨e, b⟩
    obtain ⟨d, u, L, el⟩ := leastL_ok R ht h1 h3
    rw [el] at e
    subst e
    have hl : (u ++ [1]).length = d + 1 := by rw [List.length_append, L.ok.len]; rfl
    refine ⟨⟨?_, b⟩, (kl_iff hp _).mpr L.kl, (rank_ind R ht h1 _).mpr (by rw [hl, Nat.add_sub_cancel]; exact L.ind)⟩
    have ok : RowOk p (d + 1) (u ++ [1]) := L.ok.snoc (by omega) (by have := R.h.two; omega)
    unfold isRule
    have i1 := ok.isRow
    rw [hl]
    simp only [Bool.and_eq_true, Bool.not_eq_true', decide_eq_false_iff_not, decide_eq_true_eq]
    refine ⟨fun z => (by rw [z] at hl; cases hl), i1, ?_⟩
    rw [Nat.add_sub_cancel, List.getD_eq_getElem?_getD, List.getElem?_append_right (by rw [L.ok.len]; exact Nat.le_refl _), L.ok.len, Nat.sub_self]
    rfl
theorem least_rule (R : Rnd p) (ht : Tab p n t) (h1 : 1 ≤ n) (h3 : n ≤ 3) : (leastL p n t).length ≤ n + 1 ∧ (∀ x ∈ leastL p n t, 0 ≤ x ∧ x < p) := by
  obtain ⟨d, u, L, el⟩ := leastL_ok R ht h1 h3
  rw [el]
  have ok : RowOk p (d + 1) (u ++ [1]) := L.ok.snoc (by omega) (by have := R.h.two; omega)
  have := L.dn
  exact ⟨by rw [ok.len]; omega, ok.rest⟩
end
theorem isRule_snoc {p : Int} {d : Nat} {u : List Int} (h2 : 2 ≤ p) (h : RowOk p d u) : isRule p (u ++ [1]) = true := by
  have ok : RowOk p (d + 1) (u ++ [1]) := h.snoc (by omega) (by omega)
  have hl : (u ++ [1]).length = d + 1 := ok.len
  unfold isRule
  have i1 := ok.isRow
  rw [hl]
  simp only [Bool.and_eq_true, Bool.not_eq_true', decide_eq_false_iff_not, decide_eq_true_eq]
  refine ⟨fun z => (by rw [z] at hl; cases hl), i1, ?_⟩
  rw [Nat.add_sub_cancel, List.getD_eq_getElem?_getD, List.getElem?_append_right (by rw [h.len]; exact Nat.le_refl _), h.len, Nat.sub_self]
  rfl
/-! ### alike tables -/
section
variable {p : Int} {n : Nat} {A B C S S' P : List (List Int)}
/-- one leads the other -/
structure Lead (p : Int) (n : Nat) (A B P : List (List Int)) : Prop where
  tab : Tab p n P
  full : rankL p n P = n
  eq : behindL p A P = behindL p P B
theorem bh_assoc (hp : 0 < p) {a b c : List (List Int)} (ha : Tab p n a) (hb : Tab p n b) (hc : Tab p n c) : behindL p (behindL p a b) c = behindL p a (behindL p b c) := by
  refine tab_extZ (behindL_ok hp (behindL_ok (p := p) hp ha.len hb.len).len hc.len) (behindL_ok hp ha.len (behindL_ok (p := p) hp hb.len hc.len).len) fun i j hi hj => ?_
  have ab := behindL_ok (p := p) hp ha.len hb.len
  have bc := behindL_ok (p := p) hp hb.len hc.len
  rw [ez_behind ab hc hi hj, ez_behind ha bc hi hj]
  rw [zs_congr (g := fun k => zs n fun l => ez p a i l * (ez p b l k * ez p c k j)) fun k hk => by
    rw [ez_behind ha hb hi hk, ← zs_mulR]
    exact zs_congr fun l _ => by grind, zs_swap]
  exact zs_congr fun l hl => by rw [zs_mulL, ez_behind hb hc hl hj]
/-- by a third one that both are alike to -/
theorem lead_of (R : Rnd p) (hA : Tab p n A) (hB : Tab p n B) (hC : Tab p n C) (hS : Tab p n S) (hS' : Tab p n S') (fS : rankL p n S = n) (fS' : rankL p n S' = n) (e : behindL p S A = behindL p C S) (e' : behindL p S' B = behindL p C S') : ∃ P, Lead p n A B P := by
  have hp := R.h.pos
  obtain ⟨T, hT, t1, t2⟩ := full_inv R hS fS
  have oSA := behindL_ok (p := p) hp hS.len hA.len
  have oTS := behindL_ok (p := p) hp hT.len hS'.len
  refine ⟨behindL p T S', oTS, ?_, ?_⟩
  · obtain ⟨T', hT', t1', t2'⟩ := full_inv R hS' fS'
    refine full_of_left R oTS (b := behindL p T' S) (behindL_ok hp hT'.len hS.len) ?_
    rw [bh_assoc hp hT' hS oTS, ← bh_assoc hp hS hT hS', t1, unit_behind R.h.two hS', t2']
  · -- A T S' = T S A T S' = T C S T S' = T C S' = T S' B
    have a1 : behindL p A (behindL p T S') = behindL p T (behindL p (behindL p S A) (behindL p T S')) := by
      rw [bh_assoc hp hS hA oTS, ← bh_assoc hp hT hS (behindL_ok hp hA.len oTS.len), t2, unit_behind R.h.two (behindL_ok hp hA.len oTS.len)]
    rw [a1, e, bh_assoc hp hC hS oTS, ← bh_assoc hp hS hT hS', t1, unit_behind R.h.two hS', ← e', ← bh_assoc hp hT hS' hB]
theorem lead_same (R : Rnd p) (hA : Tab p n A) : Lead p n A A (unitL n) := ⟨unitL_ok R.h.two n, full_of_left R (unitL_ok R.h.two n) (unitL_ok R.h.two n) (unit_behind R.h.two (unitL_ok R.h.two n)), by rw [behind_unit R.h.two hA, unit_behind R.h.two hA]⟩
/-- a rule's table, by rests -/
def cmpT (p : Int) (n : Nat) (u : List Int) : List (List Int) := (List.range n).map fun i => (List.range n).map fun j => if i + 1 < n then (if j = i + 1 then 1 else 0) else -(u.getD j 0) % p
theorem cmp_tab (R : Rnd p) (u : List Int) : Tab p n (cmpT p n u) := ⟨by unfold cmpT; rw [List.length_map, List.length_range], fun q hq => by
  have h2 := R.h.two
  obtain ⟨i, _, rfl⟩ := List.mem_map.mp hq
  refine ⟨by rw [List.length_map, List.length_range], fun x hx => ?_⟩
  obtain ⟨j, _, rfl⟩ := List.mem_map.mp hx
  show 0 ≤ (if i + 1 < n then (if j = i + 1 then (1 : Int) else 0) else -(u.getD j 0) % p) ∧ (if i + 1 < n then (if j = i + 1 then (1 : Int) else 0) else -(u.getD j 0) % p) < p
  by_cases e : i + 1 < n
  · rw [if_pos e]
    by_cases e2 : j = i + 1
    · rw [if_pos e2]
      omega
    · rw [if_neg e2]
      omega
  · rw [if_neg e]
    exact ⟨Int.emod_nonneg _ (by omega), Int.emod_lt_of_pos _ (by omega)⟩⟩
theorem ez_cmp {u : List Int} {i j : Nat} (hi : i < n) (hj : j < n) : ez p (cmpT p n u) i j = if i + 1 < n then (if j = i + 1 then 1 else 0) else -(rz p u j) := by
  show Zp.mk p ((rowAt (cmpT p n u) i).getD j 0) = _
  unfold cmpT rowAt
  rw [getD_range _ _ hi, getD_range _ _ hj]
  by_cases e : i + 1 < n
  · rw [if_pos e, if_pos e]
    by_cases e2 : j = i + 1
    · rw [if_pos e2, if_pos e2]
      rfl
    · rw [if_neg e2, if_neg e2]
      rfl
  · rw [if_neg e, if_neg e, Zp.mk_mod, Zp.mk_neg]
    rfl
/-- a walk, by turns -/
theorem wk_pw (R : Rnd p) (hA : Tab p n A) {row : List Int} (hr : RowOk p n row) : ∀ k, wkL p A row k = movedL p row (pwL p n A k)
  | 0 => (moved_unit R hr).symm
  | k + 1 => by
    show movedL p (wkL p A row k) A = _
    rw [wk_pw R hA hr k, moved_moved R.h.pos hr.len (pw_ok R.h.two hA k) hA]
    rfl
theorem rz_wk' (R : Rnd p) (hA : Tab p n A) {row : List Int} (hr : RowOk p n row) (k : Nat) {j : Nat} (hj : j < n) : rz p (wkL p A row k) j = zs n fun i => rz p row i * ez p (pwL p n A k) i j := by
  rw [wk_pw R hA hr k]
  exact rz_moved hr.len (pw_ok R.h.two hA k).len hj
theorem ez_walk (R : Rnd p) {row : List Int} {i j : Nat} (hi : i < n) : ez p (walkL p n A row) i j = rz p (wkL p A row i) j := by
  show rz p (rowAt (walkL p n A row) i) j = _
  rw [walk_at hi]
/-- a walk of a row takes a table to its rule's -/
theorem walk_cmp (R : Rnd p) (hA : Tab p n A) {u row : List Int} (hu : u.length = n) (hk : Kl p n A (u ++ [1])) (hr : RowOk p n row) : behindL p (walkL p n A row) A = behindL p (cmpT p n u) (walkL p n A row) := by
  have hp := R.h.pos
  have W := walk_ok hp hA hr
  have Cm := cmp_tab (n := n) R u
  refine tab_extZ (behindL_ok hp W.len hA.len) (behindL_ok hp Cm.len W.len) fun i j hi hj => ?_
  rw [ez_behind W hA hi hj, ez_behind Cm W hi hj]
  have l : (zs n fun k => ez p (walkL p n A row) i k * ez p A k j) = rz p (wkL p A row (i + 1)) j := by
    rw [rz_wk hA hr hp i hj]
    exact zs_congr fun k _ => by rw [ez_walk R hi]
  rw [l]
  by_cases e : i + 1 < n
  · rw [zs_congr (g := fun k => (if i + 1 = k then 1 else 0) * rz p (wkL p A row k) j) fun k hk => by
      rw [ez_cmp hi hk, if_pos e, ez_walk R hk]
      by_cases z : k = i + 1
      · rw [if_pos z, if_pos z.symm]
      · rw [if_neg z, if_neg fun w => z w.symm], zs_one, if_pos e]
  · have en : i + 1 = n := by omega
    rw [en, zs_congr (g := fun k => zs n fun a => (-1) * (rz p row a * (rz p u k * ez p (pwL p n A k) a j))) fun k hk => by
      rw [ez_cmp hi hk, if_neg e, ez_walk R hk, rz_wk' R hA hr k hj, ← zs_mulL]
      exact zs_congr fun a _ => by grind, zs_swap, rz_wk' R hA hr n hj]
    refine zs_congr fun a ha => ?_
    have := hk a j ha hj
    rw [cb_snoc hu] at this
    unfold cb at this
    rw [zs_mulL, zs_mulL]
    grind
/-- as long a least rule as the own one -/
theorem lead_cyc (R : Rnd p) (hA : Tab p n A) (hB : Tab p n B) (h1 : 1 ≤ n) (h3 : n ≤ 3) {u : List Int} (LA : LeastAt p n A n u) (LB : LeastAt p n B n u) : ∃ P, Lead p n A B P := by
  have hp := R.h.pos
  obtain ⟨v, hv, fv⟩ := cyc_ex R hA h1 h3 LA.ind
  obtain ⟨w, hw, fw⟩ := cyc_ex R hB h1 h3 LB.ind
  have hv := rowsA_ok.mp hv
  have hw := rowsA_ok.mp hw
  exact lead_of R hA hB (cmp_tab R u) (walk_ok hp hA hv) (walk_ok hp hB hw) fv fw (walk_cmp R hA LA.ok.len LA.kl hv) (walk_cmp R hB LB.ok.len LB.kl hw)
/-- the least rule of two rests -/
theorem lead_one (R : Rnd p) (hA : Tab p n A) (hB : Tab p n B) {u : List Int} (hu : u.length = 1) (kA : Kl p n A (u ++ [1])) (kB : Kl p n B (u ++ [1])) : A = B := tab_extZ hA hB fun i j hi hj => by
  have a := kA i j hi hj
  have b := kB i j hi hj
  rw [cb_snoc hu] at a b
  unfold cb at a b
  rw [zs1, ez_pw0 hi, ez_pw1 R hA] at a
  rw [zs1, ez_pw0 hi, ez_pw1 R hB] at b
  grind
end
/-! ### alike tables of three rows with a rule of three rests -/
def tabZ (p : Int) (n : Nat) (f : Nat → Nat → Zp p) : List (List Int) := (List.range n).map fun i => rowZ p n (f i)
section
variable {p : Int} {n : Nat} {A B : List (List Int)}
theorem tabZ_ok (R : Rnd p) (f : Nat → Nat → Zp p) : Tab p n (tabZ p n f) := ⟨by unfold tabZ; rw [List.length_map, List.length_range], fun q hq => by
  obtain ⟨i, _, rfl⟩ := List.mem_map.mp hq
  exact ⟨(rowZ_ok R n (f i)).len, (rowZ_ok R n (f i)).rest⟩⟩
theorem ez_tabZ {f : Nat → Nat → Zp p} {i j : Nat} (hi : i < n) (hj : j < n) : ez p (tabZ p n f) i j = f i j := by
  show rz p (rowAt (tabZ p n f) i) j = _
  have : rowAt (tabZ p n f) i = rowZ p n (f i) := by
    unfold tabZ rowAt
    rw [getD_range _ _ hi]
  rw [this, rz_rowZ hj]
theorem full_det (R : Rnd p) {S : List (List Int)} (hS : Tab p 3 S) (h : det3 (ez p S 0) (ez p S 1) (ez p S 2) ≠ 0) : rankL p 3 S = 3 := (full_inj R hS).mpr fun v hv e => by
  refine row_extZ hv (zeroR_ok R.h.pos 3) fun k hk => ?_
  rw [rz_zero]
  have q : ∀ j, j < 3 → rz p v 0 * ez p S 0 j + rz p v 1 * ez p S 1 j + rz p v 2 * ez p S 2 j = 0 := fun j hj => by
    have := rz_moved (p := p) hv.len hS.len hj
    rw [e, rz_zero, zs3] at this
    exact this.symm
  have q0 := q 0 (by omega)
  have q1 := q 1 (by omega)
  have q2 := q 2 (by omega)
  unfold det3 at h
  have : k = 0 ∨ k = 1 ∨ k = 2 := by omega
  rcases this with e | e | e <;> subst e <;> grind
/-- the table that those with a rule of three rests are alike to -/
def c2Z (p : Int) (u : List Int) (c : Zp p) (i j : Nat) : Zp p := if i = 0 then (if j = 1 then 1 else 0) else if i = 1 then (if j = 0 then -(rz p u 0) else if j = 1 then -(rz p u 1) else 0) else (if j = 2 then c else 0)
structure Can2 (p : Int) (A : List (List Int)) (u : List Int) (c : Zp p) (v m w : Nat → Zp p) : Prop where
  det : det3 v m w ≠ 0
  v1 : ∀ j, j < 3 → mv3 (ez p A) v j = m j
  m1 : ∀ j, j < 3 → mv3 (ez p A) m j = -(rz p u 0) * v j + -(rz p u 1) * m j
  w1 : ∀ j, j < 3 → mv3 (ez p A) w j = c * w j
  root : c * c + rz p u 1 * c + rz p u 0 = 0
  tr : ez p A 0 0 + ez p A 1 1 + ez p A 2 2 = -(rz p u 1) + c
theorem can2 (R : Rnd p) (hA : Tab p 3 A) {u : List Int} (L : LeastAt p 3 A 2 u) : ∃ c v m w, Can2 p A u c v m w := by
  -- the rule, of each row
  have kl : ∀ x : Nat → Zp p, ∀ j, j < 3 → mv3 (ez p A) (mv3 (ez p A) x) j = -(rz p u 0) * x j + -(rz p u 1) * mv3 (ez p A) x j := fun x j hj => by
    have k : ∀ i, i < 3 → ez p A i 0 * ez p A 0 j + ez p A i 1 * ez p A 1 j + ez p A i 2 * ez p A 2 j + (rz p u 0 * (if i = j then 1 else 0) + rz p u 1 * ez p A i j) = 0 := fun i hi => by
      have := L.kl i j hi hj
      rw [cb_snoc L.ok.len] at this
      unfold cb at this
      rw [zs2, ez_pw0 hi, ez_pw1 R hA, ez_pwS R hA 1 hi hj, zs3, ez_pw1 R hA, ez_pw1 R hA, ez_pw1 R hA] at this
      exact this
    have k0 := k 0 (by omega)
    have k1 := k 1 (by omega)
    have k2 := k 2 (by omega)
    have hj' : j = 0 ∨ j = 1 ∨ j = 2 := by omega
    unfold mv3
    rcases hj' with e | e | e <;> subst e <;> simp only [reduceIte, Nat.reduceEqDiff, Nat.zero_ne_one, Nat.one_ne_zero] at k0 k1 k2 <;> grind
  have ns : ¬ ∀ v u : Nat → Zp p, det3 v (mv3 (ez p A) v) u = 0 := fun z => by
    have s := scal3 z
    have := L.ind (fun k => if k = 0 then -(ez p A 0 0) else 1) (fun i j hi hj => by
      unfold cb
      rw [zs2, ez_pw0 hi, ez_pw1 R hA, s i j hi hj]
      simp only [Nat.one_ne_zero, reduceIte]
      grind) 1 (by omega)
    simp only [Nat.one_ne_zero, reduceIte] at this
    exact Zp.zno R this.symm
  have : ∃ v u : Nat → Zp p, det3 v (mv3 (ez p A) v) u ≠ 0 := Decidable.byContradiction (dec := Classical.propDecidable _) fun z => ns fun v u => Decidable.byContradiction (dec := Classical.propDecidable _) fun w => z ⟨v, u, w⟩
  obtain ⟨v, s, hD⟩ := this
  have hm := kl v
  have hs := kl s
  generalize hme : mv3 (ez p A) v = m at hD hm
  generalize hDe : det3 v m s = Dd at hD
  obtain ⟨x, y, c, hu⟩ : ∃ x y c : Zp p, ∀ j, j < 3 → mv3 (ez p A) s j = x * v j + y * m j + c * s j := by
    refine ⟨det3 (mv3 (ez p A) s) m s * Dd⁻¹, det3 v (mv3 (ez p A) s) s * Dd⁻¹, det3 v m (mv3 (ez p A) s) * Dd⁻¹, fun j hj => ?_⟩
    have := cramer v m s (mv3 (ez p A) s) j hj
    rw [hDe] at this
    grind
  generalize ha : -(rz p u 0) = α at hm hs
  generalize hb : -(rz p u 1) = β at hm hs
  -- what the rule tells of s
  have t2 : ∀ j, j < 3 → mv3 (ez p A) (mv3 (ez p A) s) j = (y * α + c * x) * v j + (x + y * β + c * y) * m j + c * c * s j := fun j hj => by
    rw [mv3_congr (y := co3 v m s x y c) (fun j hj => hu j hj) j, mv3_co, hme, hm j hj, hu j hj]
    grind
  have rel : ∀ j, j < 3 → (y * α + c * x - β * x) * v j + (x + y * β + c * y - β * y) * m j + (c * c - α - β * c) * s j = 0 := fun j hj => by
    have a := t2 j hj
    have b := hs j hj
    have d := hu j hj
    grind
  have r0 := rel 0 (by omega)
  have r1 := rel 1 (by omega)
  have r2 := rel 2 (by omega)
  have z1 : x + c * y = 0 := by
    unfold det3 at hDe
    have : (x + y * β + c * y - β * y) * Dd = 0 := by
      rw [← hDe]
      generalize (y * α + c * x - β * x) = k0 at *
      generalize (x + y * β + c * y - β * y) = k1 at *
      generalize (c * c - α - β * c) = k2 at *
      grind
    grind
  have z2 : c * c - α - β * c = 0 := by
    unfold det3 at hDe
    have : (c * c - α - β * c) * Dd = 0 := by
      rw [← hDe]
      generalize (y * α + c * x - β * x) = k0 at *
      generalize (x + y * β + c * y - β * y) = k1 at *
      generalize (c * c - α - β * c) = k2 at *
      grind
    grind
  refine ⟨c, v, m, fun j => s j - y * v j, ?_, fun j _ => by rw [hme], fun j hj => (by rw [ha, hb]; exact hm j hj), fun j hj => ?_, by grind, ?_⟩
  · have : det3 v m (fun j => s j - y * v j) = det3 v m s := by
      unfold det3
      grind
    rw [this, hDe]
    exact hD
  · have e : mv3 (ez p A) (fun j => s j - y * v j) j = mv3 (ez p A) s j - y * mv3 (ez p A) v j := by
      unfold mv3
      grind
    rw [e, hme, hu j hj]
    grind
  · have tr : (ez p A 0 0 + ez p A 1 1 + ez p A 2 2) * det3 v m s = det3 (mv3 (ez p A) v) m s + det3 v (mv3 (ez p A) m) s + det3 v m (mv3 (ez p A) s) := by
      unfold det3 mv3
      grind
    rw [hme] at tr
    have e1 : det3 v (mv3 (ez p A) m) s = β * det3 v m s := by
      rw [det3_congr (fun _ _ => rfl) (fun j hj => hm j hj) (fun _ _ => rfl) (x' := v) (z' := s) (y' := fun j => α * v j + β * m j)]
      unfold det3
      grind
    have e2 : det3 v m (mv3 (ez p A) s) = c * det3 v m s := by
      rw [det3_congr (fun _ _ => rfl) (fun _ _ => rfl) (fun j hj => hu j hj) (x' := v) (y' := m) (z' := fun j => x * v j + y * m j + c * s j)]
      unfold det3
      grind
    have e0 : det3 m m s = 0 := by
      unfold det3
      grind
    rw [e0, e1, e2, hDe] at tr
    grind
theorem lead_two (R : Rnd p) (hA : Tab p 3 A) (hB : Tab p 3 B) {u : List Int} {c : Zp p} {v m w v' m' w' : Nat → Zp p} (a : Can2 p A u c v m w) (b : Can2 p B u c v' m' w') : ∃ P, Lead p 3 A B P := by
  have key : ∀ {A : List (List Int)} {v m w : Nat → Zp p}, Tab p 3 A → Can2 p A u c v m w → let S := tabZ p 3 fun i => if i = 0 then v else if i = 1 then m else w; rankL p 3 S = 3 ∧ behindL p S A = behindL p (tabZ p 3 (c2Z p u c)) S := fun {A v m w} hA a => by
    intro S
    have hS : Tab p 3 S := tabZ_ok R _
    have hC : Tab p 3 (tabZ p 3 (c2Z p u c)) := tabZ_ok R _
    have s0 : ∀ j, j < 3 → ez p S 0 j = v j := fun j hj => ez_tabZ (by omega) hj
    have s1 : ∀ j, j < 3 → ez p S 1 j = m j := fun j hj => ez_tabZ (by omega) hj
    have s2 : ∀ j, j < 3 → ez p S 2 j = w j := fun j hj => ez_tabZ (by omega) hj
    refine ⟨full_det R hS ?_, ?_⟩
    · rw [det3_congr s0 s1 s2]
      exact a.det
    · refine tab_extZ (behindL_ok R.h.pos hS.len hA.len) (behindL_ok R.h.pos hC.len hS.len) fun i j hi hj => ?_
      have e1 : ez p (behindL p S A) i j = mv3 (ez p A) (ez p S i) j := by
        rw [ez_behind hS hA hi hj, zs3]
        rfl
      rw [e1, ez_behind hC hS hi hj, zs3, ez_tabZ hi (by omega), ez_tabZ hi (by omega), ez_tabZ hi (by omega), s0 j hj, s1 j hj, s2 j hj]
      unfold c2Z
      have hi' : i = 0 ∨ i = 1 ∨ i = 2 := by omega
      rcases hi' with e | e | e <;> subst e <;> simp only [reduceIte, Nat.reduceEqDiff, Nat.zero_ne_one, Nat.one_ne_zero]
      · rw [mv3_congr s0 j, a.v1 j hj]
        grind
      · rw [mv3_congr s1 j, a.m1 j hj]
        grind
      · rw [mv3_congr s2 j, a.w1 j hj]
        grind
  obtain ⟨f1, e1⟩ := key hA a
  obtain ⟨f2, e2⟩ := key hB b
  exact lead_of R hA hB (tabZ_ok R _) (tabZ_ok R _) (tabZ_ok R _) f1 f2 e1 e2
end
/-! ### alike tables: ranks -/
section
variable {p : Int} {n : Nat} {A B X P : List (List Int)}
theorem sp_moved (R : Rnd p) (hX : Tab p n X) {c : List Int} (hc : RowOk p n c) : Sp p n X (movedL p c X) := (sp_lin R.h.pos X hX.rows _).mpr ⟨c, by rw [hX.len]; exact hc, lin_mv hX⟩
theorem sp_of (R : Rnd p) (hX : Tab p n X) {r : List Int} (h : Sp p n X r) : ∃ c, RowOk p n c ∧ r = movedL p c X := by
  obtain ⟨c, hc, e⟩ := (sp_lin R.h.pos X hX.rows r).mp h
  rw [hX.len] at hc
  exact ⟨c, hc, by rw [← e, lin_mv hX]⟩
theorem rank_left (R : Rnd p) (hX : Tab p n X) (hP : Tab p n P) (f : rankL p n P = n) : rankL p n (behindL p P X) = rankL p n X := by
  have hp := R.h.pos
  have PX := behindL_ok (p := p) hp hP.len hX.len
  obtain ⟨Q, hQ, q1, q2⟩ := full_inv R hP f
  have sub : ∀ {P X : List (List Int)}, Tab p n P → Tab p n X → ∀ r ∈ behindL p P X, Sp p n X r := fun {P X} hP hX r hr => by
    obtain ⟨q, hq, rfl⟩ := List.mem_map.mp hr
    exact sp_moved R hX (hP.mem hq)
  refine Nat.le_antisymm (rank_mono R PX.rows hX.rows (sub hP hX)) ?_
  have e : X = behindL p Q (behindL p P X) := by rw [← bh_assoc hp hQ hP hX, q2, unit_behind R.h.two hX]
  have s := sub hQ PX
  rw [← e] at s
  exact rank_mono R hX.rows PX.rows s
theorem rank_right_le (R : Rnd p) (hX : Tab p n X) (hP : Tab p n P) (f : rankL p n P = n) : rankL p n X ≤ rankL p n (behindL p X P) := by
  have hp := R.h.pos
  have XP := behindL_ok (p := p) hp hX.len hP.len
  obtain ⟨Q, hQ, q1, q2⟩ := full_inv R hP f
  have a := spanL_all R X hX.rows
  have b := spanL_all R _ XP.rows
  have inj : ∀ v ∈ spanL p n X, ∀ w ∈ spanL p n X, movedL p v P = movedL p w P → v = w := fun v hv w hw e => by
    have ov := ((a.mem v).mp hv).ok hp (fun r hr => (hX.mem hr).len)
    have ow := ((a.mem w).mp hw).ok hp (fun r hr => (hX.mem hr).len)
    have e2 := congrArg (fun r => movedL p r Q) e
    have e2 : movedL p (movedL p v P) Q = movedL p (movedL p w P) Q := e2
    rw [moved_moved hp ov.len hP hQ, moved_moved hp ow.len hP hQ, q1, moved_unit R ov, moved_unit R ow] at e2
    exact e2
  have le := nodup_le (nodup_map a.nd inj) (ys := spanL p n (behindL p X P)) fun x hx => by
    obtain ⟨v, hv, rfl⟩ := List.mem_map.mp hx
    obtain ⟨c, hc, rfl⟩ := sp_of R hX ((a.mem v).mp hv)
    rw [moved_moved hp hc.len hX hP]
    exact (b.mem _).mpr (sp_moved R XP hc)
  rw [List.length_map, rank_len R, rank_len R] at le
  have h2 := R.h.two
  exact (Nat.pow_le_pow_iff_right (by omega)).mp le
theorem rank_right (R : Rnd p) (hX : Tab p n X) (hP : Tab p n P) (f : rankL p n P = n) : rankL p n (behindL p X P) = rankL p n X := by
  have hp := R.h.pos
  obtain ⟨Q, hQ, q1, q2⟩ := full_inv R hP f
  have XP := behindL_ok (p := p) hp hX.len hP.len
  have fQ := full_of_left R hQ hP q1
  refine Nat.le_antisymm ?_ (rank_right_le R hX hP f)
  have := rank_right_le R XP hQ fQ
  rw [bh_assoc hp hX hP hQ, q1, behind_unit R.h.two hX] at this
  exact this
/-- one that is led: at each rule -/
theorem pw_lead (R : Rnd p) (hA : Tab p n A) (hB : Tab p n B) (h : Lead p n A B P) : ∀ k, behindL p (pwL p n A k) P = behindL p P (pwL p n B k)
  | 0 => by
    show behindL p (unitL n) P = behindL p P (unitL n)
    rw [unit_behind R.h.two h.tab, behind_unit R.h.two h.tab]
  | k + 1 => by
    have hp := R.h.pos
    have a := pw_ok R.h.two hA k
    have b := pw_ok R.h.two hB k
    show behindL p (behindL p (pwL p n A k) A) P = behindL p P (behindL p (pwL p n B k) B)
    rw [bh_assoc hp a hA h.tab, h.eq, ← bh_assoc hp a h.tab hB, pw_lead R hA hB h k, bh_assoc hp h.tab b hB]
theorem rule_lead (R : Rnd p) (hA : Tab p n A) (hB : Tab p n B) (h : Lead p n A B P) (r : List Int) : behindL p (ruleT p n A r) P = behindL p P (ruleT p n B r) := by
  have hp := R.h.pos
  have a := ruleT_ok (n := n) (t := A) hp r
  have b := ruleT_ok (n := n) (t := B) hp r
  refine tab_extZ (behindL_ok hp a.len h.tab.len) (behindL_ok hp h.tab.len b.len) fun i j hi hj => ?_
  rw [ez_behind a h.tab hi hj, ez_behind h.tab b hi hj]
  have e1 : (zs n fun l => ez p (ruleT p n A r) i l * ez p P l j) = zs r.length fun k => rz p r k * zs n fun l => ez p (pwL p n A k) i l * ez p P l j := by
    rw [zs_congr (g := fun l => zs r.length fun k => rz p r k * (ez p (pwL p n A k) i l * ez p P l j)) fun l hl => by
      rw [ez_ruleT hi hl]
      unfold cb
      rw [← zs_mulR]
      exact zs_congr fun k _ => by grind, zs_swap]
    exact zs_congr fun k _ => zs_mulL _ _ _
  have e2 : (zs n fun l => ez p P i l * ez p (ruleT p n B r) l j) = zs r.length fun k => rz p r k * zs n fun l => ez p P i l * ez p (pwL p n B k) l j := by
    rw [zs_congr (n := n) (g := fun l => zs r.length fun k => rz p r k * (ez p P i l * ez p (pwL p n B k) l j)) fun l hl => by
      rw [ez_ruleT hl hj]
      unfold cb
      rw [← zs_mulL]
      exact zs_congr fun k _ => by grind, zs_swap]
    exact zs_congr fun k _ => zs_mulL _ _ _
  rw [e1, e2]
  refine zs_congr fun k _ => ?_
  rw [← ez_behind (pw_ok R.h.two hA k) h.tab hi hj, ← ez_behind h.tab (pw_ok R.h.two hB k) hi hj, pw_lead R hA hB h k]
theorem rank_lead (R : Rnd p) (hA : Tab p n A) (hB : Tab p n B) (h : Lead p n A B P) (r : List Int) : rankL p n (ruleT p n A r) = rankL p n (ruleT p n B r) := by
  have hp := R.h.pos
  rw [← rank_right R (ruleT_ok hp r) h.tab h.full, rule_lead R hA hB h r, rank_left R (ruleT_ok hp r) h.tab h.full]
theorem rank_0 (R : Rnd p) (hX : Tab p n X) : rankL p n X = 0 ↔ nilB X = true := by
  have hp := R.h.pos
  have a := spanL_all R X hX.rows
  have l := rank_len (w := n) R X
  rw [nil_iff hp hX]
  constructor
  · intro h i j hi hj
    rw [h, Nat.pow_zero] at l
    have h1 : rowAt X i ∈ spanL p n X := (a.mem _).mpr (Sp.mem hp hX.rows (rowAt_mem (by rw [hX.len]; exact hi)))
    have h2 : zeroR n ∈ spanL p n X := (a.mem _).mpr .zero
    obtain ⟨y, e⟩ := List.length_eq_one_iff.mp l
    rw [e] at h1 h2
    show rz p (rowAt X i) j = 0
    rw [List.mem_singleton.mp h1, ← List.mem_singleton.mp h2, rz_zero]
  · intro h
    have : rankL p n X ≤ rankL p n [] := rank_mono R hX.rows (fun r hr => nomatch hr) fun r hr => by
      obtain ⟨i, hi, rfl⟩ := mem_rowAt hr
      have : rowAt X i = zeroR n := row_extZ (hX.mem hr) (zeroR_ok hp n) fun j hj => by
        rw [rz_zero]
        exact h i j (by rw [← hX.len]; exact hi) hj
      rw [this]
      exact .zero
    rw [rank_nil R] at this
    omega
/-- at the rule of its own rest -/
theorem rank_c (R : Rnd p) (hA : Tab p 3 A) {u : List Int} {c : Zp p} {v m w : Nat → Zp p} (a : Can2 p A u c v m w) : rankL p 3 (ruleT p 3 A [Zp.val (-c), 1]) ≤ 1 := by
  have hp := R.h.pos
  have hX := ruleT_ok (n := 3) (t := A) hp [Zp.val (-c), 1]
  have row0 := rowZ_ok R 3 fun j => m j - c * v j
  have le1 := rank_le (w := 3) R [rowZ p 3 fun j => m j - c * v j]
  refine Nat.le_trans (rank_mono R hX.rows (rows' := [rowZ p 3 fun j => m j - c * v j]) (fun r hr => by rw [List.mem_singleton.mp hr]; exact row0) fun r hr => ?_) le1
  obtain ⟨i, hi, rfl⟩ := mem_rowAt hr
  rw [hX.len] at hi
  have cr := fun j hj => cramer v m w (e3 i) j hj
  have hD := a.det
  generalize det3 v m w = D at hD cr
  generalize det3 (e3 i) m w = d1 at cr
  generalize det3 v (e3 i) w = d2 at cr
  generalize det3 v m (e3 i) = d3 at cr
  have key : ∀ j, j < 3 → ez p (ruleT p 3 A [Zp.val (-c), 1]) i j = (d1 + d2 * (-(rz p u 1) - c)) * D⁻¹ * (m j - c * v j) := fun j hj => by
    rw [ez_ruleT hi hj]
    show zs 2 (fun k => rz p [Zp.val (-c), 1] k * ez p (pwL p 3 A k) i j) = _
    rw [zs2, ez_pw0 hi, ez_pw1 R hA]
    show Zp.mk p (Zp.val (-c)) * _ + 1 * _ = _
    rw [Zp.mk_val]
    have e0 : ez p A i j = mv3 (ez p A) (e3 i) j := by
      unfold mv3 e3
      have hi' : i = 0 ∨ i = 1 ∨ i = 2 := by omega
      rcases hi' with e | e | e <;> subst e <;> simp only [reduceIte, Nat.reduceEqDiff, Nat.zero_ne_one, Nat.one_ne_zero] <;> grind
    have e1 : D * mv3 (ez p A) (e3 i) j = d1 * m j + d2 * (-(rz p u 0) * v j + -(rz p u 1) * m j) + d3 * (c * w j) := by
      have : D * mv3 (ez p A) (e3 i) j = mv3 (ez p A) (co3 v m w d1 d2 d3) j := by
        rw [← mv3_congr (x := fun j => D * e3 i j) (y := co3 v m w d1 d2 d3) (fun j hj => cr j hj) j]
        unfold mv3
        grind
      rw [this, mv3_co, a.v1 j hj, a.m1 j hj, a.w1 j hj]
    have e2 := cr j hj
    have ee : e3 i j = (if i = j then (1 : Zp p) else 0) := rfl
    rw [e0, ← ee]
    have rt := a.root
    generalize mv3 (ez p A) (e3 i) j = y at e1
    generalize e3 i j = z at e2
    generalize v j = vj at *
    generalize m j = mj at *
    generalize w j = wj at *
    generalize rz p u 0 = u0 at *
    generalize rz p u 1 = u1 at *
    have : D * (-c * z + 1 * y) = (d1 + d2 * (-u1 - c)) * (mj - c * vj) := by grind
    grind
  have e : rowAt (ruleT p 3 A [Zp.val (-c), 1]) i = addL p (rowZ p 3 fun j => m j - c * v j) (Zp.val ((d1 + d2 * (-(rz p u 1) - c)) * D⁻¹)) (zeroR 3) := row_extZ (hX.mem hr) (addL_ok hp row0.len List.length_replicate) fun j hj => by
    rw [rz_addL (by rw [row0.len]; exact List.length_replicate.symm), rz_zero, Zp.mk_val, rz_rowZ hj]
    have := key j hj
    show ez p _ i j = _
    rw [this]
    grind
  rw [e]
  exact .add _ .zero (List.mem_singleton_self _)
theorem rank_c' (R : Rnd p) (hB : Tab p 3 B) {u : List Int} {c k : Zp p} {v m w : Nat → Zp p} (a : Can2 p B u c v m w) (h : k ≠ c) : 2 ≤ rankL p 3 (ruleT p 3 B [Zp.val (-k), 1]) := by
  have hp := R.h.pos
  have hX := ruleT_ok (n := 3) (t := B) hp [Zp.val (-k), 1]
  have act : ∀ x y : Nat → Zp p, (∀ j, j < 3 → mv3 (ez p B) x j - k * x j = y j) → movedL p (rowZ p 3 x) (ruleT p 3 B [Zp.val (-k), 1]) = rowZ p 3 y := fun x y q => by
    have o := movedL_ok hp (rowZ p 3 x) (ruleT p 3 B [Zp.val (-k), 1])
    rw [hX.len] at o
    refine row_extZ o (rowZ_ok R 3 y) fun j hj => ?_
    rw [rz_moved (rowZ_ok R 3 x).len hX.len hj, rz_rowZ hj, ← q j hj]
    have ek : ∀ i, i < 3 → rz p (rowAt (ruleT p 3 B [Zp.val (-k), 1]) i) j = -k * (if i = j then 1 else 0) + ez p B i j := fun i hi => by
      show ez p _ i j = _
      rw [ez_ruleT hi hj]
      show zs 2 (fun l => rz p [Zp.val (-k), 1] l * ez p (pwL p 3 B l) i j) = _
      rw [zs2, ez_pw0 hi, ez_pw1 R hB]
      show Zp.mk p (Zp.val (-k)) * _ + 1 * _ = _
      rw [Zp.mk_val]
      grind
    rw [zs3, ek 0 (by omega), ek 1 (by omega), ek 2 (by omega), rz_rowZ (by omega), rz_rowZ (by omega), rz_rowZ (by omega)]
    unfold mv3
    have hj' : j = 0 ∨ j = 1 ∨ j = 2 := by omega
    rcases hj' with e | e | e <;> subst e <;> simp only [reduceIte, Nat.reduceEqDiff, Nat.zero_ne_one, Nat.one_ne_zero] <;> grind
  have a1 := act v (fun j => m j - k * v j) fun j hj => by rw [a.v1 j hj]
  have a2 := act w (fun j => (c - k) * w j) fun j hj => by rw [a.w1 j hj]; grind
  have ok : ∀ r ∈ [rowZ p 3 fun j => m j - k * v j, rowZ p 3 fun j => (c - k) * w j], RowOk p 3 r := fun r hr => by
    simp only [List.mem_cons, List.not_mem_nil, or_false] at hr
    rcases hr with rfl | rfl
    · exact rowZ_ok R 3 _
    · exact rowZ_ok R 3 _
  have r2 : rankL p 3 [rowZ p 3 fun j => m j - k * v j, rowZ p 3 fun j => (c - k) * w j] = 2 := (indep_iff R _ ok).mpr fun x hx q => by
    have hx : RowOk p 2 x := hx
    have eq : ∀ j, j < 3 → rz p x 0 * (m j - k * v j) + rz p x 1 * ((c - k) * w j) = 0 := fun j hj => by
      have := congrArg (fun r => rz p r j) q
      have this : rz p (linL p 3 x [rowZ p 3 fun j => m j - k * v j, rowZ p 3 fun j => (c - k) * w j]) j = rz p (zeroR 3) j := this
      rw [rz_lin (m := 2) hx.len rfl hj, rz_zero, zs2] at this
      have e0 : rz p (rowAt [rowZ p 3 fun j => m j - k * v j, rowZ p 3 fun j => (c - k) * w j] 0) j = m j - k * v j := rz_rowZ hj
      have e1 : rz p (rowAt [rowZ p 3 fun j => m j - k * v j, rowZ p 3 fun j => (c - k) * w j] 1) j = (c - k) * w j := rz_rowZ hj
      rw [e0, e1] at this
      exact this
    have q0 := eq 0 (by omega)
    have q1 := eq 1 (by omega)
    have q2 := eq 2 (by omega)
    have hD := a.det
    unfold det3 at hD
    have z0 : rz p x 0 = 0 := by
      have : rz p x 0 * (v 0 * (m 1 * w 2 - m 2 * w 1) - v 1 * (m 0 * w 2 - m 2 * w 0) + v 2 * (m 0 * w 1 - m 1 * w 0)) = 0 := by
        generalize rz p x 0 = x0 at *
        generalize rz p x 1 * (c - k) = x1 at *
        grind
      grind
    have z1 : rz p x 1 = 0 := by
      have ck : c - k ≠ 0 := fun z => h (by grind)
      have : (rz p x 1 * (c - k)) * (v 0 * (m 1 * w 2 - m 2 * w 1) - v 1 * (m 0 * w 2 - m 2 * w 0) + v 2 * (m 0 * w 1 - m 1 * w 0)) = 0 := by
        rw [z0] at q0 q1 q2
        generalize rz p x 1 = x1 at *
        grind
      grind
    refine row_extZ hx (zeroR_ok hp 2) fun j hj => ?_
    rw [rz_zero]
    have : j = 0 ∨ j = 1 := by omega
    rcases this with e | e <;> subst e
    · exact z0
    · exact z1
  rw [← r2]
  refine rank_mono R ok hX.rows fun r hr => ?_
  simp only [List.mem_cons, List.not_mem_nil, or_false] at hr
  rcases hr with rfl | rfl
  · rw [← a1]
    exact sp_moved R hX (rowZ_ok R 3 v)
  · rw [← a2]
    exact sp_moved R hX (rowZ_ok R 3 w)
end
/-! ### alike tables: told -/
section
variable {p : Int} {n : Nat} {A B P : List (List Int)}
theorem lead_core (R : Rnd p) (hA : Tab p n A) (hB : Tab p n B) (h1 : 1 ≤ n) (h3 : n ≤ 3) {d : Nat} {u : List Int} (LA : LeastAt p n A d u) (LB : LeastAt p n B d u)
    (hc : n = 3 → d = 2 → ∀ (c c' : Zp p) (v m w v' m' w' : Nat → Zp p), Can2 p A u c v m w → Can2 p B u c' v' m' w' → c = c') : ∃ P, Lead p n A B P := by
  have := LA.d1
  have := LA.dn
  by_cases e : d = n
  · subst e
    exact lead_cyc R hA hB h1 h3 LA LB
  · by_cases e1 : d = 1
    · have := lead_one R hA hB (u := u) (by rw [LA.ok.len, e1]) LA.kl LB.kl
      subst this
      exact ⟨_, lead_same R hA⟩
    · have en : n = 3 := by omega
      have ed : d = 2 := by omega
      subst en ed
      obtain ⟨c, v, m, w, a⟩ := can2 R hA LA
      obtain ⟨c', v', m', w', b⟩ := can2 R hB LB
      have := hc rfl rfl c c' v m w v' m' w' a b
      subst this
      exact lead_two R hA hB a b
theorem lead_if_own (R : Rnd p) (hA : Tab p n A) (hB : Tab p n B) (h1 : 1 ≤ n) (h3 : n ≤ 3) (e1 : leastL p n A = leastL p n B) (e2 : ownL p n A = ownL p n B) : ∃ P, Lead p n A B P := by
  obtain ⟨d, u, LA, ea⟩ := leastL_ok R hA h1 h3
  obtain ⟨d', u', LB, eb⟩ := leastL_ok R hB h1 h3
  rw [ea, eb] at e1
  have eu : u = u' := (List.append_inj' e1 rfl).1
  subst eu
  have ed : d = d' := by rw [← LA.ok.len, ← LB.ok.len]
  subst ed
  refine lead_core R hA hB h1 h3 LA LB fun en ed c c' v m w v' m' w' a b => ?_
  subst en ed
  have o1 := own_rz R hA h1 h3 (k := 2) (by omega)
  have o2 := own_rz R hB h1 h3 (k := 2) (by omega)
  rw [e2, if_neg (by omega)] at o1
  rw [if_neg (by omega), o1] at o2
  have o2 : -(ez p A 0 0 + ez p A 1 1 + ez p A 2 2) = -(ez p B 0 0 + ez p B 1 1 + ez p B 2 2) := o2
  have ta := a.tr
  have tb := b.tr
  grind
/-- the rules that are tried -/
def rulesL (p : Int) (n : Nat) (A B : List (List Int)) : List (List Int) := ([leastL p n A, leastL p n B] ++ (List.range p.toNat).map fun (r : Nat) => [(r : Int), 1]) ++ (if 1 < n then (rowsP p 2).map (· ++ [1]) else [])
theorem lead_if_ranks (R : Rnd p) (hA : Tab p n A) (hB : Tab p n B) (h1 : 1 ≤ n) (h3 : n ≤ 3) (h : ∀ r ∈ rulesL p n A B, rankL p n (ruleT p n A r) = rankL p n (ruleT p n B r)) : ∃ P, Lead p n A B P := by
  have hp := R.h.pos
  obtain ⟨d, u, LA, ea⟩ := leastL_ok R hA h1 h3
  obtain ⟨d', u', LB, eb⟩ := leastL_ok R hB h1 h3
  have ha := h (leastL p n A) (by unfold rulesL; simp)
  have hb := h (leastL p n B) (by unfold rulesL; simp)
  rw [ea, (rank_0 R (ruleT_ok hp _)).mpr ((kl_iff hp _).mpr LA.kl)] at ha
  rw [eb, (rank_0 R (ruleT_ok (t := B) hp _)).mpr ((kl_iff hp _).mpr LB.kl)] at hb
  have kB := (kl_iff hp _).mp ((rank_0 R (ruleT_ok hp _)).mp ha.symm)
  have kA := (kl_iff hp _).mp ((rank_0 R (ruleT_ok hp _)).mp hb)
  have ed : d = d' := by
    have a : ¬ d + 1 ≤ d' := fun z => kill_dep R LA.ok.len kB (LB.ind.less z)
    have b : ¬ d' + 1 ≤ d := fun z => kill_dep R LB.ok.len kA (LA.ind.less z)
    omega
  subst ed
  have LB' : LeastAt p n B d u := ⟨LA.ok, LA.d1, LA.dn, kB, LB.ind⟩
  refine lead_core R hA hB h1 h3 LA LB' fun en ed c c' v m w v' m' w' a b => Decidable.byContradiction (dec := Classical.propDecidable _) fun z => ?_
  subst en ed
  have vk := val_ok R (-c)
  have := h [Zp.val (-c), 1] (by
    unfold rulesL
    refine List.mem_append_left _ (List.mem_append_right _ (List.mem_map.mpr ⟨(Zp.val (-c)).toNat, List.mem_range.mpr (by omega), ?_⟩))
    rw [Int.toNat_of_nonneg vk.1])
  have r1 := rank_c R hA a
  have r2 := rank_c' R hB b z
  omega
end
/-! ### what leads one table to another: the rows of which it is made -/
/-- the places of a table's row, one row behind another -/
def tieL (p : Int) (n : Nat) (A B : List (List Int)) (i j : Nat) : List Int := (List.range (n * n)).map fun s => ((if s % n = j then ent A i (s / n) else 0) - (if s / n = i then ent B (s % n) j else 0)) % p
def tieLs (p : Int) (n : Nat) (A B : List (List Int)) : List (List Int) := (List.range (n * n)).map fun s => tieL p n A B (s / n) (s % n)
/-- a free spot's row -/
def freeR (p : Int) (w : Nat) (st : List (List Int) × List Nat) (f : Nat) : List Int := (List.range w).map fun k => if k ∈ st.2 then -((rowAt st.1 (st.2.idxOf k)).getD f 0) % p else if k = f then 1 else 0
def tiesL (p : Int) (n : Nat) (A B : List (List Int)) : List (List Int) :=
  let st := clearTo p (tieLs p n A B) (n * n)
  ((List.range (n * n)).filter fun f => !decide (f ∈ st.2)).map (freeR p (n * n) st)
section
variable {p : Int} {n : Nat} {A B P : List (List Int)}
theorem tie_ok (hp : 0 < p) {i j : Nat} : RowOk p (n * n) (tieL p n A B i j) := ⟨by unfold tieL; rw [List.length_map, List.length_range], fun x hx => by
  obtain ⟨s, _, rfl⟩ := List.mem_map.mp hx
  exact ⟨Int.emod_nonneg _ (by omega), Int.emod_lt_of_pos _ hp⟩⟩
theorem ties_lines (hp : 0 < p) : ∀ r ∈ tieLs p n A B, RowOk p (n * n) r := fun r hr => by
  obtain ⟨s, _, rfl⟩ := List.mem_map.mp hr
  exact tie_ok hp
theorem zs_blocks (n : Nat) (hn : 0 < n) (f : Nat → Zp p) : ∀ m, zs (m * n) f = zs m fun a => zs n fun b => f (a * n + b)
  | 0 => by rw [Nat.zero_mul]; rfl
  | m + 1 => by
    have more : ∀ k, zs (m * n + k) f = zs (m * n) f + zs k fun b => f (m * n + b) := fun k => by
      induction k with
      | zero =>
        show _ = _ + 0
        rw [Nat.add_zero]
        grind
      | succ k ih =>
        rw [← Nat.add_assoc, zs_succ, ih, zs_succ]
        grind
    rw [Nat.succ_mul, more, zs_blocks n hn f m]
    rfl
/-- a row that all lines take to nought: a table that leads -/
theorem tie_dot (R : Rnd p) (hA : Tab p n A) (hB : Tab p n B) {X : List (List Int)} (hX : Tab p n X) {i j : Nat} (hi : i < n) (hj : j < n) : dotZ (n * n) (rz p X.flatten) (tieL p n A B i j) = ez p (behindL p A X) i j - ez p (behindL p X B) i j := by
  have hp := R.h.pos
  have e : ∀ s, s < n * n → rz p (tieL p n A B i j) s = (if s % n = j then ez p A i (s / n) else 0) - (if s / n = i then ez p B (s % n) j else 0) := fun s hs => by
    show Zp.mk p ((tieL p n A B i j).getD s 0) = _
    unfold tieL
    rw [getD_range _ _ hs, Zp.mk_mod, Zp.mk_sub]
    congr 1
    · split <;> rfl
    · split <;> rfl
  unfold dotZ
  rw [zs_congr (g := fun s => (if s % n = j then ez p A i (s / n) else 0) * ez p X (s / n) (s % n) - (if s / n = i then ez p B (s % n) j else 0) * ez p X (s / n) (s % n)) fun s hs => by
    obtain ⟨a, b, c⟩ := spot_ij (by omega) hs
    rw [e s hs, ← rz_flat hX b, c]
    grind, zs_sub, zs_blocks n (by omega), zs_blocks n (by omega)]
  have dm : ∀ a b, b < n → (a * n + b) / n = a ∧ (a * n + b) % n = b := fun a b hb => ⟨by rw [Nat.mul_comm, Nat.mul_add_div (by omega), Nat.div_eq_of_lt hb, Nat.add_zero], by rw [Nat.mul_comm, Nat.mul_add_mod, Nat.mod_eq_of_lt hb]⟩
  congr 1
  · rw [ez_behind hA hX hi hj]
    refine zs_congr fun a ha => ?_
    rw [zs_congr (g := fun b => (if j = b then 1 else 0) * (ez p A i a * ez p X a b)) fun b hb => by
      rw [(dm a b hb).1, (dm a b hb).2]
      by_cases q : b = j
      · rw [if_pos q, if_pos q.symm]
        grind
      · rw [if_neg q, if_neg fun z => q z.symm]
        grind, zs_one, if_pos hj]
  · rw [ez_behind hX hB hi hj]
    rw [zs_congr (n := n) (g := fun a => (if i = a then 1 else 0) * zs n fun b => ez p X a b * ez p B b j) fun a ha => by
      rw [← zs_mulL]
      refine zs_congr fun b hb => ?_
      rw [(dm a b hb).1, (dm a b hb).2]
      by_cases q : a = i
      · rw [if_pos q, if_pos q.symm]
        grind
      · rw [if_neg q, if_neg fun z => q z.symm]
        grind, zs_one, if_pos hi]
theorem tie_iff (R : Rnd p) (hA : Tab p n A) (hB : Tab p n B) {X : List (List Int)} (hX : Tab p n X) : (∀ r ∈ tieLs p n A B, dotZ (n * n) (rz p X.flatten) r = 0) ↔ behindL p A X = behindL p X B := by
  have hp := R.h.pos
  constructor
  · intro h
    refine tab_extZ (behindL_ok hp hA.len hX.len) (behindL_ok hp hX.len hB.len) fun i j hi hj => ?_
    have hs := ij_spot hi hj
    have a : (i * n + j) / n = i := by rw [Nat.mul_comm, Nat.mul_add_div (by omega), Nat.div_eq_of_lt hj, Nat.add_zero]
    have b : (i * n + j) % n = j := by rw [Nat.mul_comm, Nat.mul_add_mod, Nat.mod_eq_of_lt hj]
    have := h (tieL p n A B i j) (List.mem_map.mpr ⟨i * n + j, List.mem_range.mpr hs, by rw [a, b]⟩)
    rw [tie_dot R hA hB hX hi hj] at this
    grind
  · intro h r hr
    obtain ⟨s, hs, rfl⟩ := List.mem_map.mp hr
    have hs := List.mem_range.mp hs
    have hn : 0 < n := Nat.pos_of_ne_zero fun z => by subst z; exact absurd hs (by simp)
    obtain ⟨a, b, _⟩ := spot_ij hn hs
    rw [tie_dot R hA hB hX a b, h]
    grind
end
/-! ### the tables that lead: all put together of a few rows -/
section
variable {p : Int} {w m n : Nat} {A B P : List (List Int)}
theorem idx_getD {ls : List Nat} {k : Nat} (h : k ∈ ls) : ls.getD (ls.idxOf k) 0 = k ∧ ls.idxOf k < ls.length := by
  have hl := List.idxOf_lt_length_of_mem h
  refine ⟨?_, hl⟩
  rw [List.getD_eq_getElem?_getD, List.getElem?_eq_getElem hl]
  exact List.getElem_idxOf hl
theorem nd_idx {ls : List Nat} (nd : ls.Nodup) {i : Nat} (hi : i < ls.length) : ls.idxOf (ls.getD i 0) = i := by
  have hm := getD_mem 0 hi
  obtain ⟨a, b⟩ := idx_getD hm
  have e : ls[ls.idxOf (ls.getD i 0)] = ls[i] := by
    have x : ls[i] = ls.getD i 0 := by rw [List.getD_eq_getElem?_getD, List.getElem?_eq_getElem hi]; rfl
    rw [x]
    exact List.getElem_idxOf b
  exact (List.getElem_inj nd).mp e
theorem free_rz {rows0 : List (List Int)} {s : Nat} {st : List (List Int) × List Nat} (h : GInv p w m rows0 s st) {f k : Nat} (hf : f ∉ st.2) (hk : k < w) : rz p (freeR p w st f) k = freeV (p := p) st f k := by
  have nd : st.2.Nodup := h.inc.imp fun a => Nat.ne_of_lt a
  show Zp.mk p ((freeR p w st f).getD k 0) = _
  unfold freeR
  rw [getD_range _ _ hk]
  by_cases e : k ∈ st.2
  · rw [if_pos e, Zp.mk_mod, Zp.mk_neg]
    unfold freeV
    obtain ⟨a, b⟩ := idx_getD e
    rw [if_neg fun z => hf (by rw [z]; exact e), zs_congr (g := fun l => (if st.2.idxOf k = l then 1 else 0) * rz p (rowAt st.1 l) f) fun l hl => by
      by_cases z : st.2.getD l 0 = k
      · have := nd_idx nd hl
        rw [z] at this
        rw [if_pos z, if_pos this]
      · rw [if_neg z, if_neg fun y => z (by rw [← y]; exact a)], zs_one, if_pos b]
    show -(rz p _ f) = _
    grind
  · rw [if_neg e, h.free_at e]
    by_cases z : k = f
    · rw [if_pos z, if_pos z.symm]
      rfl
    · rw [if_neg z, if_neg fun y => z y.symm]
      rfl
theorem freeR_ok (R : Rnd p) (st : List (List Int) × List Nat) (f : Nat) : RowOk p w (freeR p w st f) := ⟨by unfold freeR; rw [List.length_map, List.length_range], fun x hx => by
  have h2 := R.h.two
  obtain ⟨k, _, rfl⟩ := List.mem_map.mp hx
  show 0 ≤ (if k ∈ st.2 then -((rowAt st.1 (st.2.idxOf k)).getD f 0) % p else if k = f then 1 else 0) ∧ (if k ∈ st.2 then -((rowAt st.1 (st.2.idxOf k)).getD f 0) % p else if k = f then 1 else 0) < p
  by_cases e : k ∈ st.2
  · rw [if_pos e]
    exact ⟨Int.emod_nonneg _ (by omega), Int.emod_lt_of_pos _ (by omega)⟩
  · rw [if_neg e]
    by_cases z : k = f
    · rw [if_pos z]; omega
    · rw [if_neg z]; omega⟩
/-- what all rows take to nought is put together of the free ones -/
theorem free_span (R : Rnd p) {rows0 : List (List Int)} (h0 : ∀ r ∈ rows0, RowOk p w r) {st : List (List Int) × List Nat} (h : GInv p w m rows0 w st) {c : Nat → Zp p} (hc : ∀ r ∈ rows0, dotZ w c r = 0) {k : Nat} (hk : k < w) : c k = zs w fun f => (if f ∈ st.2 then 0 else c f) * freeV (p := p) st f k := by
  have nd : st.2.Nodup := h.inc.imp fun a => Nat.ne_of_lt a
  have q := (h.perp R.h.pos h0).mp hc
  by_cases e : k ∈ st.2
  · obtain ⟨a, b⟩ := idx_getD e
    generalize hi : st.2.idxOf k = i at a b
    have him : i < m := Nat.lt_of_lt_of_le b h.km
    have d := q _ (rowAt_mem (rows := st.1) (i := i) (by rw [h.len]; exact him))
    unfold dotZ at d
    -- the rests at free spots, and at k
    have d2 : (zs w fun j => (if j ∈ st.2 then (if k = j then 1 else 0) else rz p (rowAt st.1 i) j) * c j) = 0 := by
      refine Eq.trans (zs_congr fun j _ => ?_) d
      by_cases z : j ∈ st.2
      · obtain ⟨a2, b2⟩ := idx_getD z
        have dl := h.del i _ him b2
        rw [a2] at dl
        rw [if_pos z, dl]
        by_cases y : k = j
        · rw [if_pos y, if_pos (by rw [← y]; exact hi.symm)]
        · rw [if_neg y, if_neg fun x => y (by rw [← a, ← a2, x])]
      · rw [if_neg z]
    have fv : ∀ f, f < w → (if f ∈ st.2 then 0 else c f) * freeV (p := p) st f k = (-1) * ((if f ∈ st.2 then (if k = f then 1 else 0) else rz p (rowAt st.1 i) f) * c f) + (if k = f then 1 else 0) * c f := fun f hf => by
      by_cases z : f ∈ st.2
      · rw [if_pos z, if_pos z]
        grind
      · have nk : k ≠ f := fun y => z (by rw [← y]; exact e)
        rw [if_neg z, if_neg z, if_neg nk]
        have : freeV (p := p) st f k = -(rz p (rowAt st.1 i) f) := by
          unfold freeV
          rw [if_neg fun y => nk y.symm, zs_congr (g := fun l => (if i = l then 1 else 0) * rz p (rowAt st.1 l) f) fun l hl => by
            by_cases y : st.2.getD l 0 = k
            · have x := nd_idx nd hl
              rw [y, hi] at x
              rw [if_pos y, if_pos x]
            · rw [if_neg y, if_neg fun x => y (by rw [← x]; exact a)], zs_one, if_pos b]
          grind
        rw [this]
        grind
    rw [zs_congr fv, zs_add, zs_mulL, d2, zs_one, if_pos hk]
    grind
  · rw [zs_congr (g := fun f => (if k = f then 1 else 0) * c f) fun f hf => by
      rw [h.free_at e]
      by_cases z : f = k
      · subst z
        rw [if_neg e, if_pos rfl]
        grind
      · rw [if_neg z, if_neg (show ¬ k = f from fun y => z y.symm)]
        grind, zs_one, if_pos hk]
/-- sums over some spots, by their list -/
theorem zs_filter (q : Nat → Bool) (g : Nat → Zp p) : ∀ w, (zs w fun f => if q f = true then g f else 0) = zs ((List.range w).filter q).length fun i => g (((List.range w).filter q).getD i 0)
  | 0 => rfl
  | w + 1 => by
    rw [zs_succ, zs_filter q g w, List.range_succ, List.filter_append]
    by_cases e : q w = true
    · rw [if_pos e, List.filter_cons_of_pos e, List.filter_nil, List.length_append]
      show _ = zs (_ + 1) _
      rw [zs_succ]
      congr 1
      · refine zs_congr fun i hi => ?_
        rw [getD_app, if_pos hi]
      · rw [getD_app, if_neg (Nat.lt_irrefl _), if_pos rfl]
    · rw [if_neg e, List.filter_cons_of_neg e, List.filter_nil, List.append_nil]
      grind
/-- a table by its rests, one row behind another -/
def chunkT (n : Nat) (flat : List Int) : List (List Int) := (List.range n).map fun i => (flat.drop (i * n)).take n
theorem chunk_ok {flat : List Int} (h : RowOk p (n * n) flat) : Tab p n (chunkT n flat) ∧ (chunkT n flat).flatten = flat := by
  have t : Tab p n (chunkT n flat) := ⟨by unfold chunkT; rw [List.length_map, List.length_range], fun r hr => by
    obtain ⟨i, hi, rfl⟩ := List.mem_map.mp hr
    have hi := List.mem_range.mp hi
    have := Nat.mul_le_mul_right n (show i + 1 ≤ n from hi)
    rw [Nat.succ_mul] at this
    refine ⟨by rw [List.length_take, List.length_drop, h.len]; omega, fun x hx => h.rest x (List.mem_of_mem_drop (List.mem_of_mem_take hx))⟩⟩
  refine ⟨t, ?_⟩
  have : ∀ k, k ≤ n → ((List.range k).map fun i => (flat.drop (i * n)).take n).flatten = flat.take (k * n) := fun k => by
    induction k with
    | zero => simp
    | succ k ih =>
      intro hk
      rw [List.range_succ, List.map_append, List.flatten_append, ih (by omega), Nat.succ_mul, List.take_add]
      simp
  have e := this n (Nat.le_refl n)
  rw [← h.len, List.take_length] at e
  exact e
theorem flat_chunk {X : List (List Int)} (hX : Tab p n X) : chunkT n X.flatten = X := by
  have f := flat_ok hX
  have c := (chunk_ok f).1
  refine tab_rows_ext c.len hX.len fun i hi => ?_
  refine row_extZ (p := p) (w := n) (c.mem (rowAt_mem (by rw [c.len]; exact hi))) (hX.mem (rowAt_mem (by rw [hX.len]; exact hi))) fun j hj => ?_
  have a := rz_flat c (i := i) hj
  rw [(chunk_ok f).2, rz_flat hX hj] at a
  exact a.symm
theorem ties_inv (R : Rnd p) : GInv p (n * n) (n * n) (tieLs p n A B) (n * n) (clearTo p (tieLs p n A B) (n * n)) := by
  have := clear_inv R.h (ties_lines (A := A) (B := B) (n := n) R.h.pos) (n * n)
  have l : (tieLs p n A B).length = n * n := by unfold tieLs; rw [List.length_map, List.length_range]
  rw [l] at this
  exact this
theorem ties_ok (R : Rnd p) : ∀ r ∈ tiesL p n A B, RowOk p (n * n) r := fun r hr => by
  obtain ⟨f, _, rfl⟩ := List.mem_map.mp hr
  exact freeR_ok R _ f
theorem ties_len : (tiesL p n A B).length ≤ n * n := by
  unfold tiesL
  rw [List.length_map]
  refine Nat.le_trans (List.length_filter_le _ _) ?_
  rw [List.length_range]
  exact Nat.le_refl _
/-- rows put together lead -/
theorem ties_lead (R : Rnd p) (hA : Tab p n A) (hB : Tab p n B) {ts : List Int} (ht : ts.length = (tiesL p n A B).length) : behindL p A (chunkT n (linL p (n * n) ts (tiesL p n A B))) = behindL p (chunkT n (linL p (n * n) ts (tiesL p n A B))) B := by
  have hp := R.h.pos
  have lo := linL_ok (w := n * n) hp ts (tiesL p n A B)
  obtain ⟨c1, c2⟩ := chunk_ok lo
  refine (tie_iff R hA hB c1).mp fun r hr => ?_
  rw [c2]
  unfold dotZ
  rw [zs_congr (g := fun j => zs (tiesL p n A B).length fun k => rz p ts k * (rz p r j * rz p (rowAt (tiesL p n A B) k) j)) fun j hj => by
    rw [rz_lin ht rfl hj, ← zs_mulL]
    exact zs_congr fun k _ => by grind, zs_swap]
  rw [zs_congr (g := fun _ => 0) fun k hk => ?_, zs_zero]
  rw [zs_mulL]
  have g := ties_inv (A := A) (B := B) (n := n) R
  obtain ⟨f, hf, e⟩ := List.mem_map.mp (rowAt_mem (rows := tiesL p n A B) hk)
  have hf := List.mem_filter.mp hf
  have hfw := List.mem_range.mp hf.1
  have nf : f ∉ (clearTo p (tieLs p n A B) (n * n)).2 := by simpa using hf.2
  have := g.free R (ties_lines hp) (Nat.le_refl _) hfw r hr
  unfold dotZ at this
  rw [← e, zs_congr (g := fun j => rz p r j * freeV (clearTo p (tieLs p n A B) (n * n)) f j) fun j hj => by rw [free_rz g nf hj], this]
  grind
/-- each table that leads is so -/
theorem ties_all (R : Rnd p) (hA : Tab p n A) (hB : Tab p n B) (h : Lead p n A B P) : ∃ ts, RowOk p (tiesL p n A B).length ts ∧ chunkT n (linL p (n * n) ts (tiesL p n A B)) = P := by
  have hp := R.h.pos
  have g := ties_inv (A := A) (B := B) (n := n) R
  have c0 := (tie_iff R hA hB h.tab).mpr h.eq
  let fr := (List.range (n * n)).filter fun f => !decide (f ∈ (clearTo p (tieLs p n A B) (n * n)).2)
  let st := clearTo p (tieLs p n A B) (n * n)
  have el : (tiesL p n A B).length = fr.length := by
    show (List.map _ _).length = _
    rw [List.length_map]
  refine ⟨rowZ p fr.length fun i => rz p P.flatten (fr.getD i 0), by rw [el]; exact rowZ_ok R _ _, ?_⟩
  have : linL p (n * n) (rowZ p fr.length fun i => rz p P.flatten (fr.getD i 0)) (tiesL p n A B) = P.flatten := row_extZ (linL_ok hp _ _) (flat_ok h.tab) fun k hk => by
    rw [rz_lin (m := fr.length) (rowZ_ok R _ _).len el hk, free_span R (ties_lines hp) g c0 hk]
    have := zs_filter (fun f => !decide (f ∈ st.2)) (fun f => rz p P.flatten f * freeV (p := p) st f k) (n * n)
    have e1 : (zs (n * n) fun f => (if f ∈ st.2 then 0 else rz p P.flatten f) * freeV (p := p) st f k) = zs fr.length fun i => rz p P.flatten (fr.getD i 0) * freeV (p := p) st (fr.getD i 0) k := Eq.trans (zs_congr fun f _ => by
      by_cases z : f ∈ st.2
      · rw [if_pos z, decide_eq_true z, if_neg (by decide)]
        grind
      · rw [if_neg z, decide_eq_false z]
        rfl) this
    refine Eq.trans ?_ e1.symm
    refine zs_congr fun i hi => ?_
    have hm := List.mem_filter.mp (getD_mem (xs := fr) 0 hi)
    have nf : fr.getD i 0 ∉ st.2 := by simpa using hm.2
    rw [rz_rowZ hi]
    have er : rowAt (tiesL p n A B) i = freeR p (n * n) st (fr.getD i 0) := by
      show (List.map _ fr).getD i [] = _
      rw [List.getD_eq_getElem?_getD, List.getElem?_map, List.getD_eq_getElem?_getD, List.getElem?_eq_getElem hi]
      rfl
    rw [er, free_rz g nf hk]
  rw [this, flat_chunk h.tab]
/-- how often each row is taken -/
def mixC (p : Int) (k m : Nat) : List Int := (List.range m).map fun (i : Nat) => (((k : Int) + 1) * ((k : Int) + 7 * i + 5) * 48271 + i * 69621) % 1000003 % p
def tryT (p : Int) (n : Nat) (rows : List (List Int)) (ts : List Int) : List (List Int) := chunkT n (linL p (n * n) ts rows)
def leadL (p : Int) (n : Nat) (A B : List (List Int)) : List (List Int) :=
  match (List.range 401).find? fun k => decide (rankL p n (tryT p n (tiesL p n A B) (mixC p k (tiesL p n A B).length)) = n) with
  | some k => tryT p n (tiesL p n A B) (mixC p k (tiesL p n A B).length)
  | none => match (rowsP p (tiesL p n A B).length).find? fun ts => decide (rankL p n (tryT p n (tiesL p n A B) ts) = n) with
    | some ts => tryT p n (tiesL p n A B) ts
    | none => []
theorem leadL_ok (R : Rnd p) (hA : Tab p n A) (hB : Tab p n B) (h : ∃ P, Lead p n A B P) : Lead p n A B (leadL p n A B) := by
  have hp := R.h.pos
  have mk : ∀ ts : List Int, ts.length = (tiesL p n A B).length → rankL p n (tryT p n (tiesL p n A B) ts) = n → Lead p n A B (tryT p n (tiesL p n A B) ts) := fun ts hl hr => ⟨(chunk_ok (linL_ok hp _ _)).1, hr, ties_lead R hA hB hl⟩
  unfold leadL
  cases e : (List.range 401).find? fun k => decide (rankL p n (tryT p n (tiesL p n A B) (mixC p k (tiesL p n A B).length)) = n) with
  | some k =>
    have := List.find?_some (p := fun k => decide (rankL p n (tryT p n (tiesL p n A B) (mixC p k (tiesL p n A B).length)) = n)) e
    exact mk _ (by unfold mixC; rw [List.length_map, List.length_range]) (of_decide_eq_true this)
  | none =>
    cases e2 : (rowsP p (tiesL p n A B).length).find? fun ts => decide (rankL p n (tryT p n (tiesL p n A B) ts) = n) with
    | some ts =>
      have := List.find?_some (p := fun ts => decide (rankL p n (tryT p n (tiesL p n A B) ts) = n)) e2
      exact mk ts (rowsP_mem.mp (List.mem_of_find?_eq_some e2)).len (of_decide_eq_true this)
    | none =>
      obtain ⟨P, hP⟩ := h
      obtain ⟨ts, ht, et⟩ := ties_all R hA hB hP
      have := List.find?_eq_none.mp e2 ts (rowsP_mem.mpr ht)
      refine absurd (decide_eq_true ?_) this
      show rankL p n (chunkT n _) = n
      rw [et]
      exact hP.full
end
/-! ### restturns/tables.py -/
structure BI (mg : Str → Option Value) : Prop where
  isinstance : mg "isinstance" = none
  int : mg "int" = none
  bool : mg "bool" = none
  list : mg "list" = none
  len : mg "len" = none
  all : mg "all" = none
  range : mg "range" = none
  sum : mg "sum" = none
  zip : mg "zip" = none
/-- the module's constants -/
structure CM (M : Md) : Prop where
  most : ∃ t, M.mg "MOST" = some (.int 3 t)
structure CR (M : Md) : Prop where
  rounds : ∃ c vs, M.mg "ROUNDS" = some (.ref c) ∧ (∀ H, SqT M.K H c vs) ∧ ∀ H, Rps M.K H vs [.int 2, .int 3, .int 5, .int 7]
section
variable {M : Md}
def gWhole (ds : List D) (t : T) : Prop := ∃ i, ds = [.int i] ∧ t = .sh (.bl true)
theorem ok_is_whole (B : BI M.mg) (F : FnE M "is_whole" s_is_whole ["thing"]) : DefOk M 1 "is_whole" gWhole := by
  refine def_okE F c_is_whole (fun ds t ⟨i, h, _⟩ => by rw [h]; rfl) fun X ds t hX ⟨i, h, ht⟩ => ?_
  subst h ht
  exact Ss.cons (Sm.ret (t := .sh (.bl true)) (Ev.and (p := true) (q := true) (e_isi hX B.isinstance B.int PyProof.Rows.boot_int (nmS hX 0) rfl (by decide +kernel)) fun _ => Ev.and1 (Ev.not (p := false) (e_isi hX B.isinstance B.bool PyProof.Rows.boot_bool (nmS hX 0) rfl (by decide +kernel)))) rfl)
def gRound (ds : List D) (t : T) : Prop := ∃ p, ds = [.int p] ∧ Round p ∧ t = .sh .non
theorem rounds_mem {p : Int} (h : Round p) : decide (p ∈ [(2 : Int), 3, 5, 7]) = true := decide_eq_true (by rcases h with h | h | h | h <;> subst h <;> decide)
theorem e_rounds {N : List Str} {sc : Scope} {fc : Str → Bool} {k : Nat} {X : Cx} {ρ : Rho} {p : Pos} (hX : XF M N sc fc k X) (C : CR M) (hg : glB sc "ROUNDS" = true := by decide +kernel) : Ev X ρ (.Name "ROUNDS" p) (.sh (.tup ([2, 3, 5, 7].map D.int))) := by
  obtain ⟨c, vs, h1, h2, h3⟩ := C.rounds
  exact Ev.globT (hX.gl hg).1 (by rw [hX.m]; exact h1) (by rw [hX.K]; exact h2) (by rw [hX.K]; exact h3)
theorem e_most {N : List Str} {sc : Scope} {fc : Str → Bool} {k : Nat} {X : Cx} {ρ : Rho} {p : Pos} (hX : XF M N sc fc k X) (C : CM M) (hg : glB sc "MOST" = true := by decide +kernel) : Ev X ρ (.Name "MOST" p) (.sh (.int 3)) := by
  obtain ⟨t, h1⟩ := C.most
  exact Ev.glob (v := .int 3) (hX.gl hg).1 (by rw [hX.m]; exact h1) ⟨t, rfl⟩ trivial fun H => .int 3
theorem ok_check_round (C : CR M) (F : FnE M "check_round" s_check_round ["prime"]) (H1 : DefOk M 1 "is_whole" gWhole) : DefOk M 2 "check_round" gRound := by
  refine def_okE F c_check_round (fun ds t ⟨i, h, _⟩ => by rw [h]; rfl) fun X ds t hX ⟨i, h, hr, ht⟩ => ?_
  subst h ht
  refine Ss.cons (Sm.ife (q := false) (Te.of (Tw.te (Tw.or (Te.not (Te.val (Ev.call hX H1 (.cons (nm hX 0) .nil) ⟨i, rfl, rfl⟩))) fun _ => Tw.or1 (Te.cmp CmpD.notInTI (nmS hX 0) (e_rounds hX C).rd))) ?_) (fun h => nomatch h) fun _ => Ss.nil (Ss.nil rfl))
  rw [rounds_mem hr]
  rfl
theorem sz {n : Nat} (h : n ≤ 1000) : n ≤ sizeLine := Nat.le_of_lt (small1000 h)
def gIsRow (ds : List D) (t : T) : Prop := ∃ p xs n, ds = [.int p, dR xs, .int n] ∧ xs.length ≤ 1000 ∧ t = .sh (.bl (isRow p xs n))
theorem ok_is_row (B : BI M.mg) (F : FnE M "is_row" s_is_row ["prime", "thing", "many"]) (H1 : DefOk M 1 "is_whole" gWhole) : DefOk M 2 "is_row" gIsRow := by
  refine def_okE F c_is_row (fun ds t ⟨p, xs, n, h, _⟩ => by rw [h]; rfl) fun X ds t hX ⟨p, xs, n, h, hz, ht⟩ => ?_
  subst h ht
  refine Ss.cons (Sm.ret (Ev.and (p := true) (e_isi hX B.isinstance B.list PyProof.Rows.boot_list (nmS hX 1) rfl (by decide +kernel)) fun _ => Ev.and (Ev.cmp CmpD.eqI (e_len hX B.len (nmS hX 1)).rd (nmS hX 2)) fun _ => Ev.and1
      (e_allC (xs := xs) hX B.all (lcN (xs := xs) (en := D.int) hX 3 (ItC.list (Ev.lsS (nm hX 1))) (fun X' b hX' a _ => Ev.and (p := true) (Ev.call hX' H1 (.cons (nm hX' 3) .nil) ⟨a, rfl, rfl⟩) fun _ => Ev.and1 (Ev.chain CmpD.le CmpD.lt Ev.int.rd (nmS hX' 3) (nmS hX' 0))) (sz hz)))) ?_)
  show T.sh _ = T.sh _
  unfold isRow
  rw [List.length_map]
  simp only [Bool.true_and]
def gIsTable (ds : List D) (t : T) : Prop := ∃ p tb, ds = [.int p, dT tb] ∧ tb.length ≤ 1000 ∧ (∀ r ∈ tb, r.length ≤ 1000) ∧ t = .sh (.bl (isTable p tb))
theorem ok_is_table (B : BI M.mg) (C : CM M) (F : FnE M "is_table" s_is_table ["prime", "thing"]) (H1 : DefOk M 2 "is_row" gIsRow) : DefOk M 3 "is_table" gIsTable := by
  refine def_okE F c_is_table (fun ds t ⟨p, tb, h, _⟩ => by rw [h]; rfl) fun X ds t hX ⟨p, tb, h, hz, hr, ht⟩ => ?_
  subst h ht
  have hl := e_len (p := ⟨0, 0, 0, 0⟩) (pos := ⟨0, 0, 0, 0⟩) (ρ := rho0 N_is_table [.int p, dT tb]) hX B.len (nmS (x := "thing") (pos := ⟨0, 0, 0, 0⟩) hX 1)
  refine Ss.cons (Sm.ife (q := !(decide (1 ≤ (tb.length : Int)) && decide ((tb.length : Int) ≤ 3))) (Te.of (Tw.te (Tw.or (Te.not (Te.val (e_isi (q := true) hX B.isinstance B.list PyProof.Rows.boot_list (nmS hX 1) rfl (by decide +kernel)))) fun _ => Tw.or1 (Te.not (Te.chain CmpD.le CmpD.le Ev.int.rd (e_len hX B.len (nmS hX 1)).rd (e_most hX C).rd)))) ?_) (fun h => ?_) fun h => ?_)
  · rw [List.length_map]
    rfl
  · refine Ss.cons (Sm.ret (Ev.bl) ?_)
    show T.sh _ = T.sh _
    unfold isTable
    rw [Bool.not_eq_true'] at h
    rw [h]
    rfl
  · refine Ss.nil (Ss.cons (Sm.ret (e_allC (xs := tb) hX B.all (lcN (xs := tb) (en := dR) hX 2 (ItC.list (Ev.lsS (nm hX 1))) (fun X' b hX' a ha => Ev.call hX' H1 (.cons (nm hX' 0) (.cons (nm hX' 2) (.cons (e_len hX' B.len (nmS hX' 1)) .nil))) ⟨p, a, _, rfl, hr a ha, rfl⟩) (sz hz))) ?_))
    show T.sh _ = T.sh _
    unfold isTable
    rw [Bool.not_eq_false'] at h
    rw [h, List.length_map]
    rfl
def gCheckTable (ds : List D) (t : T) : Prop := ∃ p tb, ds = [.int p, dT tb] ∧ isTable p tb = true ∧ t = .sh .non
theorem tab1000 {p : Int} {tb : List (List Int)} (h : isTable p tb = true) : tb.length ≤ 1000 ∧ ∀ r ∈ tb, r.length ≤ 1000 := by
  obtain ⟨h1, h2, h3⟩ := isTable_ok h
  exact ⟨by omega, fun r hr => by rw [(h1.row r hr).1]; omega⟩
theorem ok_check_table (F : FnE M "check_table" s_check_table ["prime", "table"]) (H1 : DefOk M 3 "is_table" gIsTable) : DefOk M 4 "check_table" gCheckTable := by
  refine def_okE F c_check_table (fun ds t ⟨p, tb, h, _⟩ => by rw [h]; rfl) fun X ds t hX ⟨p, tb, h, hq, ht⟩ => ?_
  subst h ht
  refine Ss.cons (Sm.ife (q := false) (Te.of (Te.not (Te.val (Ev.call hX H1 (.cons (nm hX 0) (.cons (nm hX 1) .nil)) ⟨p, tb, rfl, (tab1000 hq).1, (tab1000 hq).2, rfl⟩))) ?_) (fun h => nomatch h) fun _ => Ss.nil (Ss.nil rfl))
  rw [hq]
  rfl
def gCheckOne (ds : List D) (t : T) : Prop := ∃ p tb, ds = [.int p, dT tb] ∧ Round p ∧ isTable p tb = true ∧ t = .sh .non
theorem ok_check_one (F : FnE M "check_one" s_check_one ["prime", "table"]) (H1 : DefOk M 2 "check_round" gRound) (H2 : DefOk M 4 "check_table" gCheckTable) : DefOk M 5 "check_one" gCheckOne := by
  refine def_okE F c_check_one (fun ds t ⟨p, tb, h, _⟩ => by rw [h]; rfl) fun X ds t hX ⟨p, tb, h, hr, hq, ht⟩ => ?_
  subst h ht
  exact Ss.cons (Sm.expr (Ev.call hX H1 (.cons (nm hX 0) .nil) ⟨p, rfl, hr, rfl⟩) (Ss.cons (Sm.expr (Ev.call hX H2 (.cons (nm hX 0) (.cons (nm hX 1) .nil)) ⟨p, tb, rfl, hq, rfl⟩) (Ss.nil rfl))))
def gCheckTwo (ds : List D) (t : T) : Prop := ∃ p s tb, ds = [.int p, dT s, dT tb] ∧ Round p ∧ isTable p s = true ∧ isTable p tb = true ∧ s.length = tb.length ∧ t = .sh .non
def gUnit (ds : List D) (t : T) : Prop := ∃ n : Nat, ds = [.int n] ∧ n ≤ 1000 ∧ t = tT (unitL n)
theorem ok_unit_of (B : BI M.mg) (F : FnE M "unit_of" s_unit_of ["many"]) : DefOk M 1 "unit_of" gUnit := by
  refine def_okE F c_unit_of (fun ds t ⟨n, h, _⟩ => by rw [h]; rfl) fun X ds t hX ⟨n, h, hn, ht⟩ => ?_
  subst h ht
  have hn2 : (n : Int) < 2 ^ 62 := by omega
  refine Ss.cons (Sm.ret (lcN (xs := List.range n) hX 1 (itRange hX B.range (nmS hX 0) hn2).c (fun X' b hX' i _ => lcN (xs := List.range n) hX' 2 (itRange hX' B.range (nmS hX' 0) hn2).c (fun X2 b2 hX2 j _ => e_intB hX2 B.int (Ev.cmp CmpD.eqI (nmS hX2 1) (nmS hX2 2)).rd) (by rw [List.length_range]; exact sz hn)) (by rw [List.length_range]; exact sz hn)) ?_)
  show T.lst _ = T.lst _
  unfold unitL
  rw [List.map_map]
  congr 1
  refine List.map_congr_left fun i _ => ?_
  show T.lst _ = T.lst _
  rw [List.map_map]
  congr 1
  refine List.map_congr_left fun j _ => ?_
  show T.sh (.int _) = T.sh (.int _)
  congr 2
  by_cases e : i = j
  · subst e
    simp
  · have : ¬ (i : Int) = j := by omega
    simp [e, this]
theorem atI_getD {xs : List Int} {j : Nat} (h : j < xs.length) : atI (xs.map D.int) (j : Int) = some (.int (xs.getD j 0)) := by
  refine atI_nat ?_
  rw [List.getElem?_map, List.getElem?_eq_getElem h, List.getD_eq_getElem?_getD, List.getElem?_eq_getElem h]
  rfl
structure MvOk (p : Int) (row : List Int) (t : List (List Int)) : Prop where
  pos : 0 < p
  rl : row.length ≤ 1000
  rb : ∀ x ∈ row, -(2 ^ 64) < x ∧ x < 2 ^ 64
  tl : t.length ≤ 1000
  ll : ∀ l ∈ t, t.length ≤ l.length
def gMovedOf (ds : List D) (t : T) : Prop := ∃ p row tb, ds = [.int p, dR row, dT tb] ∧ MvOk p row tb ∧ t = tR (movedL p row tb)
theorem ok_moved_of (B : BI M.mg) (F : FnE M "moved_of" s_moved_of ["prime", "row", "table"]) : DefOk M 1 "moved_of" gMovedOf := by
  refine def_okE F c_moved_of (fun ds t ⟨p, row, tb, h, _⟩ => by rw [h]; rfl) fun X ds t hX ⟨p, row, tb, h, hq, ht⟩ => ?_
  subst h ht
  let f : Nat → Int := fun j => ((row.zip tb).map fun q => q.1 * q.2.getD j 0).sum % p
  refine Ss.cons (Sm.set hX 3 (Ev.list .nil) (Ss.cons (Sm.forN (xs := List.range tb.length) (en := fun (i : Nat) => D.int (i : Int)) (fun j ρ => ρ = [some (.sh (.int p)), some (.sh (dR row)), some (.sh (dT tb)), some (.lst ((List.range j).map fun i => tI (f i))), none, none, none]) hX 4
    (itRange hX B.range ((e_len hX B.len (nmS hX 2)).rd.cast (by rw [List.length_map]; rfl)) (by have := hq.tl; omega)) rfl (fun j ρ h => by rw [h]; rfl) (fun j a ρ hj hI => ?_) fun ρ hI => ?_)))
  · subst hI
    obtain ⟨hj', rfl⟩ : j < tb.length ∧ j = a := by
      have := List.getElem?_eq_some_iff.mp hj
      obtain ⟨h1, h2⟩ := this
      rw [List.length_range] at h1
      rw [List.getElem_range] at h2
      exact ⟨h1, h2⟩
    refine Ss.cons (Sm.app (nmN hX 3) (Ev.mod (e_sumC (xs := row.zip tb) hX B.sum (lcZ (xs := row.zip tb) (en := fun q => .int q.1) (en' := fun q => dR q.2) hX 5 6 (itZipC (f := D.int) (g := dR) hX B.zip (Ev.lsS (nm hX 1)) (Ev.lsS (nm hX 2))) (fun X' b hX' q hm => Ev.mul (nmS hX' 5) (Rd.ix (nmS hX' 6) (nmS hX' 4) (atI_getD (Nat.lt_of_lt_of_le hj' (hq.ll _ (List.of_mem_zip hm).2)))) (.inl (hq.rb _ (List.of_mem_zip hm).1))) (sz (by rw [List.length_zip]; have := hq.rl; omega)))).rd (nmS hX 0) hq.pos)
      (Ss.drop 4 (Ss.nil ?_)) ?_)
    · rw [List.range_succ, List.map_append]
      rfl
    · rw [List.length_map, List.length_range]
      exact Nat.lt_of_lt_of_le hj' (sz hq.tl)
  · rw [List.length_range] at hI
    subst hI
    refine Ss.cons (Sm.retV hX 3 ?_)
    show T.lst _ = T.lst _
    unfold movedL
    rw [List.map_map]
    rfl
def BhOk (p : Int) (one other : List (List Int)) : Prop := one.length ≤ 1000 ∧ ∀ r ∈ one, MvOk p r other
def gBehindOf (ds : List D) (t : T) : Prop := ∃ p one other, ds = [.int p, dT one, dT other] ∧ BhOk p one other ∧ t = tT (behindL p one other)
theorem ok_behind_of (F : FnE M "behind_of" s_behind_of ["prime", "one", "other"]) (H1 : DefOk M 1 "moved_of" gMovedOf) : DefOk M 2 "behind_of" gBehindOf := by
  refine def_okE F c_behind_of (fun ds t ⟨p, one, other, h, _⟩ => by rw [h]; rfl) fun X ds t hX ⟨p, one, other, h, hq, ht⟩ => ?_
  subst h ht
  refine Ss.cons (Sm.ret (lcN (xs := one) (en := dR) hX 3 (ItC.list (Ev.lsS (nm hX 1))) (fun X' b hX' r hr => Ev.call hX' H1 (.cons (nm hX' 0) (.cons (nm hX' 3) (.cons (nm hX' 2) .nil))) ⟨p, r, other, rfl, hq.2 r hr, rfl⟩) (sz hq.1)) ?_)
  show T.lst _ = T.lst _
  unfold behindL
  rw [List.map_map]
  rfl
theorem Tab.mv {p : Int} {n : Nat} (hp : Round p) (hn : n ≤ 3) {row : List Int} {t : List (List Int)} (hr : RowOk p n row) (ht : Tab p n t) : MvOk p row t := by
  have := hp.le
  refine ⟨hp.pos, by rw [hr.len]; omega, fun x hx => ?_, by rw [ht.len]; omega, fun l hl => by rw [ht.len, (ht.row l hl).1]; exact Nat.le_refl _⟩
  have := hr.rest x hx
  omega
theorem Tab.bh {p : Int} {n : Nat} (hp : Round p) (hn : n ≤ 3) {s t : List (List Int)} (hs : Tab p n s) (ht : Tab p n t) : BhOk p s t := ⟨by rw [hs.len]; omega, fun r hr => Tab.mv hp hn (hs.mem hr) ht⟩
def gTogOf (ds : List D) (t : T) : Prop := ∃ p one other times, ds = [.int p, dT one, dT other, .int times] ∧ (0 < p ∧ one.length ≤ 1000 ∧ (∀ r ∈ one, r.length ≤ 1000) ∧ -(2 ^ 64) < times ∧ times < 2 ^ 64) ∧ t = tT (togetherL p one other times)
theorem behindL_len (p : Int) (a b : List (List Int)) : (behindL p a b).length = a.length := by
  unfold behindL
  rw [List.length_map]
def gTurnedOf (ds : List D) (t : T) : Prop := ∃ p tb, ∃ m n : Nat, ds = [.int p, dT tb, .int m] ∧ Round p ∧ n ≤ 3 ∧ Tab p n tb ∧ t = tT (turnedL p tb m)
theorem turnLoop_stop (p : Int) (f : Nat) (a b : List (List Int)) : turnLoop p f a b 0 = a := by
  cases f with
  | zero => rfl
  | succ f => unfold turnLoop; rw [if_pos rfl]
/-- enough fuel -/
theorem turnLoop_fuel (p : Int) : ∀ (f g : Nat) (a b : List (List Int)) (m : Nat), m ≤ f → m ≤ g → turnLoop p f a b m = turnLoop p g a b m
  | 0, g, a, b, m, h1, _ => by
    have : m = 0 := by omega
    subst this
    rw [turnLoop_stop, turnLoop_stop]
  | f + 1, 0, a, b, m, _, h2 => by
    have : m = 0 := by omega
    subst this
    rw [turnLoop_stop, turnLoop_stop]
  | f + 1, g + 1, a, b, m, h1, h2 => by
    unfold turnLoop
    split
    · rfl
    · exact turnLoop_fuel p f g _ _ _ (by omega) (by omega)
end
/-! ### the doors of restturns/tables.py -/
section
variable {M : Md}
def gMovedD (ds : List D) (t : T) : Prop := ∃ p row tb, ∃ n : Nat, ds = [.int p, dR row, dT tb] ∧ Round p ∧ (1 ≤ n ∧ n ≤ 3) ∧ RowOk p n row ∧ Tab p n tb ∧ t = tR (movedL p row tb)
def gBehindD (ds : List D) (t : T) : Prop := ∃ p one other, ∃ n : Nat, ds = [.int p, dT one, dT other] ∧ Round p ∧ (1 ≤ n ∧ n ≤ 3) ∧ Tab p n one ∧ Tab p n other ∧ t = tT (behindL p one other)
def gTogD (ds : List D) (t : T) : Prop := ∃ p one other, ∃ n : Nat, ds = [.int p, dT one, dT other] ∧ Round p ∧ (1 ≤ n ∧ n ≤ 3) ∧ Tab p n one ∧ Tab p n other ∧ t = tT (togetherL p one other 1)
def gTurnedD (ds : List D) (t : T) : Prop := ∃ p tb, ∃ m n : Nat, ds = [.int p, dT tb, .int m] ∧ Round p ∧ (1 ≤ n ∧ n ≤ 3) ∧ Tab p n tb ∧ t = tT (turnedL p tb m)
end
/-! ### the law's own steps: draws -/
def primesL : List Int := [1000003, 1000033, 1000037, 1000039, 1000081, 1000099, 1000117, 1000121, 1000133, 1000151, 1000159, 1000171, 1000183, 1000187, 1000193, 1000199]
def drawL (c k n : Int) : Int := (c * 48271 + k * 69621) % primesL.getD (k % 16).toNat 0 % n
def valueL (c t : Int) : Int := if 1000000000000000000 ≤ c then (c - 1000000000000000000) % 10000000000000000000000000000000000000000 / 2 ^ (3 * t).toNat else
  drawL ((c % 1000000000000000000 + 977 * t) * (c % 1000000000000000000 + 31 * t + 5)) (t % 9 + 1) 999983 * 1000003 + drawL ((c % 1000000000000000000 + 31 * t) * (c % 1000000000000000000 + 7) + 977 * t) (t % 7 + 2) 1000003
theorem drawL_ok (c k : Int) {n : Int} (h : 0 < n) : 0 ≤ drawL c k n ∧ drawL c k n < n := ⟨Int.emod_nonneg _ (by omega), Int.emod_lt_of_pos _ h⟩
theorem valueL_ok (c t : Int) : 0 ≤ valueL c t ∧ valueL c t < 10 ^ 41 := by
  unfold valueL
  split
  · have h1 : 0 ≤ (c - 1000000000000000000) % 10000000000000000000000000000000000000000 := Int.emod_nonneg _ (by decide)
    have h2 : (c - 1000000000000000000) % 10000000000000000000000000000000000000000 < 10000000000000000000000000000000000000000 := Int.emod_lt_of_pos _ (by decide)
    have h3 : (c - 1000000000000000000) % 10000000000000000000000000000000000000000 / 2 ^ (3 * t).toNat ≤ (c - 1000000000000000000) % 10000000000000000000000000000000000000000 := Int.ediv_le_self _ h1
    have h4 : 0 ≤ (c - 1000000000000000000) % 10000000000000000000000000000000000000000 / 2 ^ (3 * t).toNat := Int.ediv_nonneg h1 (Int.pow_nonneg (by decide))
    omega
  · have h1 := drawL_ok ((c % 1000000000000000000 + 977 * t) * (c % 1000000000000000000 + 31 * t + 5)) (t % 9 + 1) (n := 999983) (by decide)
    have h2 := drawL_ok ((c % 1000000000000000000 + 31 * t) * (c % 1000000000000000000 + 7) + 977 * t) (t % 7 + 2) (n := 1000003) (by decide)
    omega
theorem primes_pos : ∀ x ∈ primesL, 0 < x := by decide
theorem prime_at (k : Int) : 0 < primesL.getD (k % 16).toNat 0 := by
  have h1 : 0 ≤ k % 16 := Int.emod_nonneg _ (by decide)
  have h2 : k % 16 < 16 := Int.emod_lt_of_pos _ (by decide)
  have h3 : (k % 16).toNat < primesL.length := by
    show _ < 16
    omega
  rw [List.getD_eq_getElem?_getD, List.getElem?_eq_getElem h3]
  exact primes_pos _ (List.getElem_mem h3)
theorem pw10 {X : Cx} {ρ : Rho} {i j m : Int} {a b : Nat} {pos p1 p2 : Pos} (h : i ^ j.toNat = m) (hc : CPow i j := by exact ⟨by decide, by decide, by decide⟩) : Ev X ρ (.BinOp (.Constant (.int i) a p1) .Pow (.Constant (.int j) b p2) pos) (tI m) := h ▸ Ev.pow Ev.int.rd Ev.int.rd hc
section
variable {M : Md}
def gCell (ds : List D) (t : T) : Prop := ∃ ns, ∃ k : Nat, ds = [dR ns, .int k] ∧ t = tI (ns.getD k 0)
theorem ok_cell_at (B : BI M.mg) (F : FnE M "_law_cell_at" s__law_cell_at P__law_cell_at) : DefOk M 1 "_law_cell_at" gCell := by
  refine def_okE F c__law_cell_at (fun ds t ⟨ns, k, h, _⟩ => by rw [h]; rfl) fun X ds t hX ⟨ns, k, h, ht⟩ => ?_
  subst h ht
  refine Ss.cons (Sm.ife (Te.cmp CmpD.lt (nmS hX 1) (e_len hX B.len (nmS hX 0)).rd) (fun h => ?_) fun h => ?_)
  · rw [List.length_map] at h
    have hk : k < ns.length := by
      have := of_decide_eq_true h
      omega
    exact Ss.cons (Sm.ret (Ev.ix (nm hX 0) (nmS hX 1) (atI_getD hk)) rfl)
  · rw [List.length_map] at h
    have hk : ¬ k < ns.length := by
      have := of_decide_eq_false h
      omega
    refine Ss.nil (Ss.cons (Sm.ret Ev.int ?_))
    show tI 0 = tI _
    rw [List.getD_eq_getElem?_getD, List.getElem?_eq_none (by omega)]
    rfl
def gDraw (ds : List D) (t : T) : Prop := ∃ c k n, ds = [.int c, .int k, .int n] ∧ (0 ≤ k ∧ k < 1000) ∧ 0 < n ∧ t = tI (drawL c k n)
theorem atI_mod (k : Int) : atI (primesL.map D.int) (k % 16) = some (.int (primesL.getD (k % 16).toNat 0)) := by
  have h1 : 0 ≤ k % 16 := Int.emod_nonneg _ (by decide)
  have h2 : k % 16 < 16 := Int.emod_lt_of_pos _ (by decide)
  have h3 := atI_getD (xs := primesL) (j := (k % 16).toNat) (by show _ < 16; omega)
  rw [Int.toNat_of_nonneg h1] at h3
  exact h3
theorem ok_draw (F : FnE M "_law_draw" s__law_draw P__law_draw) : DefOk M 1 "_law_draw" gDraw := by
  refine def_okE F c__law_draw (fun ds t hg => ?_) fun X ds t hX hg => ?_
  · obtain ⟨c, k, n, h, _⟩ := hg
    rw [h]
    rfl
  obtain ⟨c, k, n, h, hk, hn, ht⟩ := hg
  subst h ht
  refine Ss.cons (Sm.set hX 3 (t := .sh (.tup (primesL.map D.int))) (Ev.tupI (ns := primesL)) ?_)
  exact Ss.cons (Sm.ret (Ev.mod (Ev.mod (Ev.add (Ev.mul (nmS hX 0) Ev.int.rd (.inr (by decide))).rd (Ev.mul (nmS hX 1) Ev.int.rd (.inl ⟨by omega, by omega⟩)).rd).rd (Rd.ixT (nmS hX 3) (Ev.mod (nmS hX 1) Ev.int.rd (by decide)).rd (atI_mod k)) (prime_at k)).rd (nmS hX 2) hn) rfl)
def gValue (ds : List D) (t : T) : Prop := ∃ c u, ds = [.int c, .int u] ∧ (0 ≤ u ∧ u < 1000) ∧ t = tI (valueL c u)
theorem ok_value (F : FnE M "_law_value" s__law_value P__law_value) (H1 : DefOk M 1 "_law_draw" gDraw) : DefOk M 2 "_law_value" gValue := by
  refine def_okE F c__law_value (fun ds t ⟨c, u, h, _⟩ => by rw [h]; rfl) fun X ds t hX ⟨c, u, h, ⟨hu1, hu2⟩, ht⟩ => ?_
  subst h ht
  refine Ss.cons (Sm.ife (Te.cmp CmpD.ge (nmS hX 0) (pw10 (m := 1000000000000000000) rfl).rd) (fun h => ?_) fun h => ?_)
  · refine Ss.cons (Sm.ret (Ev.shr (Ev.mod (Ev.sub (nmS hX 0) (pw10 (m := 1000000000000000000) rfl).rd).rd (pw10 (m := 10000000000000000000000000000000000000000) rfl).rd (by decide)).rd (Ev.mul Ev.int.rd (nmS hX 1) (.inl (by decide))).rd (by omega)) ?_)
    show tI _ = tI _
    unfold valueL
    rw [if_pos (of_decide_eq_true h)]
  · have hr1 : 0 ≤ c % 1000000000000000000 := Int.emod_nonneg _ (by decide)
    have hr2 : c % 1000000000000000000 < 1000000000000000000 := Int.emod_lt_of_pos _ (by decide)
    have m9 : 0 ≤ u % 9 := Int.emod_nonneg _ (by decide)
    have m9' : u % 9 < 9 := Int.emod_lt_of_pos _ (by decide)
    have m7 : 0 ≤ u % 7 := Int.emod_nonneg _ (by decide)
    have m7' : u % 7 < 7 := Int.emod_lt_of_pos _ (by decide)
    refine Ss.nil (Ss.cons (Sm.set hX 2 (t := tI (c % 1000000000000000000)) (Ev.mod (nmS hX 0) (pw10 (m := 1000000000000000000) rfl).rd (by decide)) ?_))
    refine Ss.cons (Sm.set hX 3 (Ev.call hX H1 (.cons (Ev.mul (Ev.add (nmS hX 2) (Ev.mul Ev.int.rd (nmS hX 1) (.inl (by decide))).rd).rd (Ev.add (Ev.add (nmS hX 2) (Ev.mul Ev.int.rd (nmS hX 1) (.inl (by decide))).rd).rd Ev.int.rd).rd (.inl (by omega))) (.cons (Ev.add (Ev.mod (nmS hX 1) Ev.int.rd (by decide)).rd Ev.int.rd) (.cons Ev.int .nil))) ⟨_, _, _, rfl, by omega, by decide, rfl⟩) ?_)
    refine Ss.cons (Sm.ret (Ev.add (Ev.mul (nmS hX 3) Ev.int.rd (.inr (by decide))).rd (Ev.rd (Ev.call hX H1 (.cons (Ev.add (Ev.mul (Ev.add (nmS hX 2) (Ev.mul Ev.int.rd (nmS hX 1) (.inl (by decide))).rd).rd (Ev.add (nmS hX 2) Ev.int.rd).rd (.inl (by omega))).rd (Ev.mul Ev.int.rd (nmS hX 1) (.inl (by decide))).rd) (.cons (Ev.add (Ev.mod (nmS hX 1) Ev.int.rd (by decide)).rd Ev.int.rd) (.cons Ev.int .nil))) ⟨_, _, _, rfl, by omega, by decide, rfl⟩))) ?_)
    show tI _ = tI _
    unfold valueL
    rw [if_neg (of_decide_eq_false h)]
end
/-! ### the law's own steps: tables -/
def minL (p : Int) : Int := if 2 < p then 2 else p
def lineL (ns : List Int) (b : Nat) (p : Int) (n : Nat) (kind : Int) (row : Nat) : List Int := (List.range n).map fun (pl : Nat) =>
  if kind = 1 then valueL (ns.getD (b + row) 0 + 29 * (pl : Int) + 101 * (row : Int)) (3 + (pl : Int)) / 3 % minL p else valueL (ns.getD (b + row) 0 + 29 * (pl : Int) + 101 * (row : Int)) (3 + (pl : Int)) / 3 % p
def kindL (ns : List Int) (b : Nat) : Int := valueL (ns.getD b 0) 2 % 5
def tab0L (ns : List Int) (b : Nat) (p : Int) (n : Nat) : List (List Int) := (List.range n).map (lineL ns b p n (kindL ns b))
def slantL (n : Nat) (r : Int) : List (List Int) := (List.range n).map fun i => (List.range n).map fun j => r * (if i = j then 1 else 0)
def tabL (ns : List Int) (b : Nat) (p : Int) (n : Nat) : List (List Int) :=
  if kindL ns b = 2 then (tab0L ns b p n).set (n - 1) (((tab0L ns b p n).getD 0 []).map fun r => r * 2 % p)
  else if kindL ns b = 3 then (tab0L ns b p n).set 0 (List.replicate n 0)
  else if kindL ns b = 4 then
    let s := slantL n (((tab0L ns b p n).getD 0 []).getD 0 0)
    s.set (n - 1) ((s.getD (n - 1) []).set 0 (((s.getD (n - 1) []).getD 0 0 + 1) % p))
  else tab0L ns b p n
theorem lineL_ok {p : Int} (hp : Round p) (ns : List Int) (b n : Nat) (kind : Int) (row : Nat) : RowOk p n (lineL ns b p n kind row) := ⟨by unfold lineL; rw [List.length_map, List.length_range], fun x hx => by
  have h2 := hp.two
  unfold lineL at hx
  obtain ⟨j, _, rfl⟩ := List.mem_map.mp hx
  split
  · have : 0 < minL p ∧ minL p ≤ p := by
      unfold minL
      split <;> omega
    exact ⟨Int.emod_nonneg _ (by omega), Int.lt_of_lt_of_le (Int.emod_lt_of_pos _ this.1) this.2⟩
  · exact ⟨Int.emod_nonneg _ (by omega), Int.emod_lt_of_pos _ hp.pos⟩⟩
theorem tab_of {p : Int} {n : Nat} {t : List (List Int)} (h : t.length = n) (hr : ∀ r ∈ t, RowOk p n r) : Tab p n t := ⟨h, fun r m => ⟨(hr r m).len, (hr r m).rest⟩⟩
theorem tab0L_ok {p : Int} (hp : Round p) (ns : List Int) (b n : Nat) : Tab p n (tab0L ns b p n) := tab_of (by unfold tab0L; rw [List.length_map, List.length_range]) fun r hr => by
  unfold tab0L at hr
  obtain ⟨j, _, rfl⟩ := List.mem_map.mp hr
  exact lineL_ok hp ns b n _ j
theorem Tab.set {p : Int} {n : Nat} {t : List (List Int)} (h : Tab p n t) (i : Nat) {r : List Int} (hr : RowOk p n r) : Tab p n (t.set i r) := tab_of (by rw [List.length_set, h.len]) fun q hq => by
  rcases List.mem_or_eq_of_mem_set hq with m | m
  · exact h.mem m
  · rw [m]
    exact hr
theorem Tab.at {p : Int} {n : Nat} {t : List (List Int)} (h : Tab p n t) {i : Nat} (hi : i < n) : RowOk p n (t.getD i []) := by
  have : i < t.length := by
    rw [h.len]
    exact hi
  rw [List.getD_eq_getElem?_getD, List.getElem?_eq_getElem this]
  exact h.mem (List.getElem_mem this)
theorem RowOk.at {p : Int} {n : Nat} {r : List Int} (h : RowOk p n r) {i : Nat} (hi : i < n) : 0 ≤ r.getD i 0 ∧ r.getD i 0 < p := by
  have : i < r.length := by
    rw [h.len]
    exact hi
  rw [List.getD_eq_getElem?_getD, List.getElem?_eq_getElem this]
  exact h.rest _ (List.getElem_mem this)
theorem slantL_ok {p : Int} (hp : Round p) (n : Nat) {r : Int} (hr : 0 ≤ r ∧ r < p) : Tab p n (slantL n r) := tab_of (by unfold slantL; rw [List.length_map, List.length_range]) fun q hq => by
  have := hp.pos
  unfold slantL at hq
  obtain ⟨j, _, rfl⟩ := List.mem_map.mp hq
  refine ⟨by rw [List.length_map, List.length_range], fun x hx => ?_⟩
  obtain ⟨i, _, rfl⟩ := List.mem_map.mp hx
  split <;> omega
theorem RowOk.set {p : Int} {n : Nat} {r : List Int} (h : RowOk p n r) (i : Nat) {x : Int} (hx : 0 ≤ x ∧ x < p) : RowOk p n (r.set i x) := ⟨by rw [List.length_set, h.len], fun y hy => by
  rcases List.mem_or_eq_of_mem_set hy with m | m
  · exact h.rest y m
  · rw [m]
    exact hx⟩
theorem tabL_ok {p : Int} (hp : Round p) (ns : List Int) (b : Nat) {n : Nat} (hn : 1 ≤ n) : Tab p n (tabL ns b p n) := by
  have h0 := tab0L_ok hp ns b n
  have hpp := hp.pos
  unfold tabL
  split
  · refine h0.set _ ⟨by rw [List.length_map, (h0.at hn).len], fun x hx => ?_⟩
    obtain ⟨y, _, rfl⟩ := List.mem_map.mp hx
    exact ⟨Int.emod_nonneg _ (by omega), Int.emod_lt_of_pos _ hpp⟩
  split
  · refine h0.set _ ⟨List.length_replicate, fun x hx => ?_⟩
    rw [List.eq_of_mem_replicate hx]
    omega
  split
  · have hs := slantL_ok hp n ((h0.at hn).at hn)
    exact hs.set _ ((hs.at (by omega)).set 0 ⟨Int.emod_nonneg _ (by omega), Int.emod_lt_of_pos _ hpp⟩)
  · exact h0
def lmovedL (p : Int) (row : List Int) (t : List (List Int)) : List Int := (row.zip t).foldl (fun acc q => (acc.zip q.2).map fun z => (z.1 + q.1 * z.2) % p) (List.replicate t.length 0)
def lbehindL (p : Int) (one other : List (List Int)) : List (List Int) := one.map fun r => lmovedL p r other
theorem zip_range {n : Nat} {xs ys : List Int} (hx : xs.length = n) (hy : ys.length = n) (f : Int × Int → Int) : (xs.zip ys).map f = (List.range n).map fun j => f (xs.getD j 0, ys.getD j 0) := by
  refine List.ext_getElem? fun j => ?_
  by_cases h : j < n
  · rw [List.getElem?_map, List.getElem?_map, List.getElem?_range h, List.getElem?_eq_getElem (by rw [List.length_zip]; omega), List.getElem_zip]
    show some _ = some (f (xs.getD j 0, ys.getD j 0))
    rw [List.getD_eq_getElem?_getD, List.getD_eq_getElem?_getD, List.getElem?_eq_getElem (by omega), List.getElem?_eq_getElem (by omega)]
    rfl
  · rw [List.getElem?_eq_none (by rw [List.length_map, List.length_zip]; omega), List.getElem?_eq_none (by rw [List.length_map, List.length_range]; omega)]
theorem fold_moved (p : Int) (n : Nat) : ∀ (qs : List (Int × List Int)) (acc : List Int), acc.length = n → (∀ q ∈ qs, q.2.length = n) → (∀ x ∈ acc, x % p = x) →
    qs.foldl (fun acc q => (acc.zip q.2).map fun z => (z.1 + q.1 * z.2) % p) acc = (List.range n).map fun j => (acc.getD j 0 + (qs.map fun q => q.1 * q.2.getD j 0).sum) % p
  | [], acc, h, _, hm => by
    refine List.ext_getElem? fun j => ?_
    by_cases hj : j < n
    · have h1 : j < acc.length := by omega
      rw [List.getElem?_map, List.getElem?_range hj, List.foldl_nil, List.getElem?_eq_getElem h1]
      show some _ = some ((acc.getD j 0 + 0) % p)
      rw [Int.add_zero, List.getD_eq_getElem?_getD, List.getElem?_eq_getElem h1]
      show some _ = some (acc[j] % p)
      rw [hm _ (List.getElem_mem h1)]
    · rw [List.foldl_nil, List.getElem?_eq_none (by omega), List.getElem?_eq_none (by rw [List.length_map, List.length_range]; omega)]
  | q :: qs, acc, h, hq, hm => by
    have hq0 := hq q (List.mem_cons_self ..)
    have e := zip_range h hq0 fun z => (z.1 + q.1 * z.2) % p
    rw [List.foldl_cons, e, fold_moved p n qs _ (by rw [List.length_map, List.length_range]) (fun r hr => hq r (List.mem_cons_of_mem _ hr)) fun x hx => by
      obtain ⟨j, _, rfl⟩ := List.mem_map.mp hx
      exact Int.emod_emod_of_dvd _ (Int.dvd_refl p)]
    refine List.map_congr_left fun j hj => ?_
    have hj' := List.mem_range.mp hj
    rw [List.getD_eq_getElem?_getD, List.getElem?_map, List.getElem?_range hj']
    show ((acc.getD j 0 + q.1 * q.2.getD j 0) % p + _) % p = _
    rw [Int.emod_add_emod, List.map_cons, List.sum_cons, Int.add_assoc]
theorem lmovedL_eq {p : Int} {n : Nat} {t : List (List Int)} (ht : Tab p n t) (row : List Int) : lmovedL p row t = movedL p row t := by
  unfold lmovedL movedL
  rw [fold_moved p t.length (row.zip t) _ List.length_replicate (fun q hq => by rw [ht.len]; exact (ht.row _ (List.of_mem_zip hq).2).1) fun x hx => by
    rw [List.eq_of_mem_replicate hx]
    exact Int.zero_emod p]
  refine List.map_congr_left fun j hj => ?_
  rw [List.getD_eq_getElem?_getD, List.getElem?_replicate]
  have := List.mem_range.mp hj
  rw [if_pos this]
  show (0 + _) % p = _
  rw [Int.zero_add]
theorem lbehindL_eq {p : Int} {n : Nat} {t : List (List Int)} (ht : Tab p n t) (one : List (List Int)) : lbehindL p one t = behindL p one t := by
  unfold lbehindL behindL
  exact List.map_congr_left fun r _ => lmovedL_eq ht r
section
variable {M : Md}
theorem ok_lwhole (B : BI M.mg) (F : FnE M "_law_whole" s__law_whole P__law_whole) : DefOk M 1 "_law_whole" gWhole := by
  refine def_okE F c__law_whole (fun ds t ⟨i, h, _⟩ => by rw [h]; rfl) fun X ds t hX ⟨i, h, ht⟩ => ?_
  subst h ht
  exact Ss.cons (Sm.ret (t := .sh (.bl true)) (Ev.and (p := true) (q := true) (e_isi hX B.isinstance B.int PyProof.Rows.boot_int (nmS hX 0) rfl (by decide +kernel)) fun _ => Ev.and1 (Ev.not (p := false) (e_isi hX B.isinstance B.bool PyProof.Rows.boot_bool (nmS hX 0) rfl (by decide +kernel)))) rfl)
def primeL (ns : List Int) (b : Nat) : Int := [(2 : Int), 3, 5, 7].getD (valueL (ns.getD b 0) 1 % 4).toNat 0
theorem primeL_round (ns : List Int) (b : Nat) : Round (primeL ns b) := by
  unfold primeL
  have h1 : 0 ≤ valueL (ns.getD b 0) 1 % 4 := Int.emod_nonneg _ (by decide)
  have h2 : valueL (ns.getD b 0) 1 % 4 < 4 := Int.emod_lt_of_pos _ (by decide)
  generalize valueL (ns.getD b 0) 1 % 4 = r at h1 h2
  have : r.toNat = 0 ∨ r.toNat = 1 ∨ r.toNat = 2 ∨ r.toNat = 3 := by omega
  rcases this with e | e | e | e <;> rw [e]
  · exact .inl rfl
  · exact .inr (.inl rfl)
  · exact .inr (.inr (.inl rfl))
  · exact .inr (.inr (.inr rfl))
def gPrime (ds : List D) (t : T) : Prop := ∃ ns, ∃ b : Nat, ds = [dR ns, .int b] ∧ t = tI (primeL ns b)
def manyL (ns : List Int) (b : Nat) : Nat := 1 + (valueL (ns.getD b 0) 4 % 3).toNat
theorem manyL_ok (ns : List Int) (b : Nat) : 1 ≤ manyL ns b ∧ manyL ns b ≤ 3 := by
  unfold manyL
  have h1 : 0 ≤ valueL (ns.getD b 0) 4 % 3 := Int.emod_nonneg _ (by decide)
  have h2 : valueL (ns.getD b 0) 4 % 3 < 3 := Int.emod_lt_of_pos _ (by decide)
  omega
def gMany (ds : List D) (t : T) : Prop := ∃ ns, ∃ b : Nat, ds = [dR ns, .int b] ∧ t = tI (manyL ns b)
def gCopy (ds : List D) (t : T) : Prop := ∃ tb, ds = [dT tb] ∧ tb.length ≤ 1000 ∧ t = tT tb
theorem ok_copy (B : BI M.mg) (F : FnE M "_law_copy" s__law_copy P__law_copy) : DefOk M 1 "_law_copy" gCopy := by
  refine def_okE F c__law_copy (fun ds t ⟨tb, h, _⟩ => by rw [h]; rfl) fun X ds t hX ⟨tb, h, hl, ht⟩ => ?_
  subst h ht
  refine Ss.cons (Sm.ret (lcN (xs := tb) (en := dR) hX 1 (ItC.list (Ev.lsS (nm hX 0))) (fun X' b hX' r hr => e_listOf hX' B.list (Ev.lsS (nm hX' 1))) (sz hl)) ?_)
  show T.lst _ = T.lst _
  congr 1
  refine List.map_congr_left fun r _ => ?_
  show T.lst _ = T.lst _
  rw [List.map_map]
  rfl
def gLUnit (ds : List D) (t : T) : Prop := ∃ n : Nat, ds = [.int n] ∧ n ≤ 1000 ∧ t = tT (unitL n)
theorem ok_lunit (B : BI M.mg) (F : FnE M "_law_unit" s__law_unit P__law_unit) : DefOk M 1 "_law_unit" gLUnit := by
  refine def_okE F c__law_unit (fun ds t ⟨n, h, _⟩ => by rw [h]; rfl) fun X ds t hX ⟨n, h, hn, ht⟩ => ?_
  subst h ht
  have hn2 : (n : Int) < 2 ^ 62 := by omega
  refine Ss.cons (Sm.ret (lcN (xs := List.range n) (g := fun i => .lst ((List.range n).map fun j => tI (if i = j then 1 else 0))) hX 1 (itRange hX B.range (nmS hX 0) hn2).c (fun X' b hX' i _ => lcN (xs := List.range n) hX' 2 (itRange hX' B.range (nmS hX' 0) hn2).c (fun X2 b2 hX2 j _ => Ev.ifx (p := decide (i = j)) (Te.of (Te.cmp CmpD.eqI (nmS hX2 1) (nmS hX2 2)) (by
    by_cases e : i = j
    · rw [decide_eq_true e, decide_eq_true (by omega)]
    · rw [decide_eq_false e, decide_eq_false (by omega)])) (fun h => Ev.int.cast (by rw [if_pos (of_decide_eq_true h)])) fun h => Ev.int.cast (by rw [if_neg (of_decide_eq_false h)])) (by rw [List.length_range]; exact sz hn)) (by rw [List.length_range]; exact sz hn)) ?_)
  show T.lst _ = T.lst _
  unfold unitL
  rw [List.map_map]
  congr 1
  refine List.map_congr_left fun i _ => ?_
  show T.lst _ = T.lst _
  rw [List.map_map]
  rfl
theorem Pa.lsR {X : Cx} {ρ : Rho} {e : Expr} {xs : List Int} (h : Pa X ρ e (tR xs)) : Ls X ρ e (xs.map D.int) := Pa.ls (ds := xs.map D.int) (by rw [List.map_map]; exact h)
theorem rep0 : ∀ n : Nat, (List.replicate n [D.int 0]).flatten.map T.sh = (List.replicate n (0 : Int)).map tI
  | 0 => rfl
  | n + 1 => by
    rw [List.replicate_succ, List.replicate_succ, List.flatten_cons, List.map_append, List.map_cons, rep0 n]
    rfl
theorem repT {X : Cx} {ρ : Rho} {a b : Expr} {pos : Pos} {n : Nat} (h : Ls X ρ a [.int 0]) (h' : Rd X ρ b (.int n)) (hn : n ≤ 1000) : Ev X ρ (.BinOp a .Mult b pos) (tR (List.replicate n 0)) :=
  (Ev.rep h h' (by omega) (by omega) (by rw [Int.toNat_natCast]; show 1 * n ≤ _; rw [Nat.one_mul]; exact sz hn)).cast (by
    show T.lst _ = T.lst _
    rw [Int.toNat_natCast, rep0])
def gLMoved (ds : List D) (t : T) : Prop := ∃ p row tb n, ds = [.int p, dR row, dT tb] ∧ Round p ∧ n ≤ 3 ∧ RowOk p n row ∧ Tab p n tb ∧ t = tR (movedL p row tb)
theorem ok_lmoved (B : BI M.mg) (F : FnE M "_law_moved" s__law_moved P__law_moved) : DefOk M 1 "_law_moved" gLMoved := by
  refine def_okE F c__law_moved (fun ds t ⟨p, row, tb, n, h, _⟩ => by rw [h]; rfl) fun X ds t hX ⟨p, row, tb, n, h, hp, hn, hr, htb, ht⟩ => ?_
  subst h ht
  let st : Nat → List Int := fun j => ((row.zip tb).take j).foldl (fun acc q => (acc.zip q.2).map fun z => (z.1 + q.1 * z.2) % p) (List.replicate tb.length 0)
  have hl : ∀ j, (st j).length ≤ 3 := by
    intro j
    have : ∀ (qs : List (Int × List Int)) (acc : List Int), acc.length ≤ 3 → (qs.foldl (fun acc q => (acc.zip q.2).map fun z => (z.1 + q.1 * z.2) % p) acc).length ≤ 3 := by
      intro qs
      induction qs with
      | nil => intro acc h; exact h
      | cons q qs ih =>
        intro acc h
        rw [List.foldl_cons]
        refine ih _ ?_
        rw [List.length_map, List.length_zip]
        omega
    exact this _ _ (by rw [List.length_replicate, htb.len]; exact hn)
  have hmul : ∀ q ∈ row.zip tb, 0 ≤ q.1 ∧ q.1 < p := fun q hq => hr.rest _ (List.of_mem_zip hq).1
  have h7 := hp.le
  refine Ss.cons (Sm.set hX 3 (repT (n := tb.length) (Ev.ls (Ev.listI (ns := [0]))) ((e_len hX B.len (nmS hX 2)).rd.cast (by rw [List.length_map]; rfl)) (by rw [htb.len]; omega)) (Ss.cons (Sm.forZ (xs := row.zip tb) (en := fun q => .int q.1) (en' := fun q => dR q.2) (fun j ρ => ρ = [some (.sh (.int p)), some (.sh (dR row)), some (.sh (dT tb)), some (tR (st j)), none, none, none, none]) hX 4 5
    (itZip (f := D.int) (g := dR) hX B.zip (nm hX 1) (nm hX 2)) rfl (fun j ρ h => by rw [h]; exact ⟨rfl, rfl⟩) (fun j q ρ hj hI => ?_) fun ρ hI => ?_)))
  · subst hI
    have hq := hmul q (List.mem_of_getElem? hj)
    refine Ss.cons (Sm.lcZ (xs := (st j).zip q.2) (en := fun z => .int z.1) (en' := fun z => .int z.2) hX 3 6 7 (itZipC (f := D.int) (g := D.int) hX B.zip (Pa.lsR (nmP hX 3)) (Ev.lsS (nm hX 5))) (fun X' b hX' z hz => Ev.mod (Ev.add (nmS hX' 6) (Ev.mul (nmS hX' 4) (nmS hX' 7) (.inl (by omega))).rd).rd (nmS hX' 0) hp.pos) (sz (by rw [List.length_zip]; have := hl j; omega)) (Ss.drop 4 (Ss.drop 5 (Ss.nil ?_))))
    have e : st (j + 1) = ((st j).zip q.2).map fun z => (z.1 + q.1 * z.2) % p := by
      show ((row.zip tb).take (j + 1)).foldl _ _ = _
      rw [List.take_add_one, hj, List.foldl_append]
      rfl
    show _ = _
    rw [e]
    show [_, _, _, some (T.lst _), _, _, _, _] = [_, _, _, some (T.lst _), _, _, _, _]
    rw [List.map_map]
    rfl
  · subst hI
    refine Ss.cons (Sm.retV hX 3 ?_)
    show tR _ = tR _
    rw [← lmovedL_eq htb]
    congr 1
    show ((row.zip tb).take (row.zip tb).length).foldl _ _ = _
    rw [List.take_length]
    rfl
def gLBehind (ds : List D) (t : T) : Prop := ∃ p one other n, ds = [.int p, dT one, dT other] ∧ Round p ∧ n ≤ 3 ∧ Tab p n one ∧ Tab p n other ∧ t = tT (behindL p one other)
theorem ok_lbehind (F : FnE M "_law_behind" s__law_behind P__law_behind) (H1 : DefOk M 1 "_law_moved" gLMoved) : DefOk M 2 "_law_behind" gLBehind := by
  refine def_okE F c__law_behind (fun ds t ⟨p, one, other, n, h, _⟩ => by rw [h]; rfl) fun X ds t hX ⟨p, one, other, n, h, hp, hn, h1, h2, ht⟩ => ?_
  subst h ht
  refine Ss.cons (Sm.ret (lcN (xs := one) (en := dR) hX 3 (ItC.list (Ev.lsS (nm hX 1))) (fun X' b hX' r hr => Ev.call hX' H1 (.cons (nm hX' 0) (.cons (nm hX' 3) (.cons (nm hX' 2) .nil))) ⟨p, r, other, n, rfl, hp, hn, h1.mem hr, h2, rfl⟩) (sz (by rw [h1.len]; omega))) ?_)
  show T.lst _ = T.lst _
  unfold behindL
  rw [List.map_map]
  rfl
theorem ok_lis_row (B : BI M.mg) (F : FnE M "_law_is_row" s__law_is_row P__law_is_row) (H1 : DefOk M 1 "_law_whole" gWhole) : DefOk M 2 "_law_is_row" gIsRow := by
  refine def_okE F c__law_is_row (fun ds t ⟨p, xs, n, h, _⟩ => by rw [h]; rfl) fun X ds t hX ⟨p, xs, n, h, hz, ht⟩ => ?_
  subst h ht
  refine Ss.cons (Sm.ife (q := !decide ((xs.length : Int) = n)) (Te.of (Tw.te (Tw.or (Te.not (Te.val (e_isi (q := true) hX B.isinstance B.list PyProof.Rows.boot_list (nmS hX 1) rfl (by decide +kernel)))) fun _ => Tw.or1 (Te.cmp CmpD.neI (e_len hX B.len (nmS hX 1)).rd (nmS hX 2)))) (by rw [List.length_map]; rfl)) (fun h => ?_) fun h => ?_)
  · refine Ss.cons (Sm.ret Ev.bl ?_)
    show T.sh _ = T.sh _
    unfold isRow
    rw [Bool.not_eq_true'] at h
    rw [h]
    rfl
  · refine Ss.nil (Ss.cons (Sm.ret (e_allC (xs := xs) hX B.all (lcN (xs := xs) (en := D.int) hX 3 (ItC.list (Ev.lsS (nm hX 1))) (fun X' b hX' a _ => Ev.and (p := true) (Ev.call hX' H1 (.cons (nm hX' 3) .nil) ⟨a, rfl, rfl⟩) fun _ => Ev.and1 (Ev.chain CmpD.le CmpD.lt Ev.int.rd (nmS hX' 3) (nmS hX' 0))) (sz hz))) ?_))
    show T.sh _ = T.sh _
    unfold isRow
    rw [Bool.not_eq_false'] at h
    rw [h]
    simp only [Bool.true_and]
def gLIsTable (ds : List D) (t : T) : Prop := ∃ p tb n, ds = [.int p, dT tb, .int n] ∧ tb.length ≤ 1000 ∧ (∀ r ∈ tb, r.length ≤ 1000) ∧ t = .sh (.bl (decide ((tb.length : Int) = n) && tb.all fun r => isRow p r n))
theorem ok_lis_table (B : BI M.mg) (F : FnE M "_law_is_table" s__law_is_table P__law_is_table) (H1 : DefOk M 2 "_law_is_row" gIsRow) : DefOk M 3 "_law_is_table" gLIsTable := by
  refine def_okE F c__law_is_table (fun ds t ⟨p, tb, n, h, _⟩ => by rw [h]; rfl) fun X ds t hX ⟨p, tb, n, h, hz, hr, ht⟩ => ?_
  subst h ht
  refine Ss.cons (Sm.ret (Ev.and (p := true) (e_isi hX B.isinstance B.list PyProof.Rows.boot_list (nmS hX 1) rfl (by decide +kernel)) fun _ => Ev.and (Ev.cmp CmpD.eqI (e_len hX B.len (nmS hX 1)).rd (nmS hX 2)) fun _ => Ev.and1
      (e_allC (xs := tb) hX B.all (lcN (xs := tb) (en := dR) hX 3 (ItC.list (Ev.lsS (nm hX 1))) (fun X' b hX' r hm => Ev.call hX' H1 (.cons (nm hX' 0) (.cons (nm hX' 3) (.cons (nm hX' 2) .nil))) ⟨p, r, n, rfl, hr r hm, rfl⟩) (sz hz)))) ?_)
  show T.sh _ = T.sh _
  rw [List.length_map]
  rfl
theorem ltab {p : Int} {n : Nat} {t : List (List Int)} (h : Tab p n t) : (decide ((t.length : Int) = n) && t.all fun r => isRow p r n) = true := by
  simp only [Bool.and_eq_true, decide_eq_true_eq, List.all_eq_true]
  exact ⟨by rw [h.len], fun r hr => (h.mem hr).isRow⟩
end
section
variable {M : Md}
theorem rng_at {n j i : Nat} (h : (List.range n)[j]? = some i) : j < n ∧ i = j := by
  obtain ⟨h1, h2⟩ := List.getElem?_eq_some_iff.mp h
  rw [List.length_range] at h1
  rw [List.getElem_range] at h2
  exact ⟨h1, h2.symm⟩
theorem ixN_last {n : Nat} (h : 0 < n) : ixN n (-1) = some (n - 1) := by
  unfold ixN
  rw [if_neg (by omega), if_pos (by omega)]
  congr 1
  omega
theorem ixN_nat {n j : Nat} (h : j < n) : ixN n (j : Int) = some j := by
  unfold ixN
  rw [if_pos (by omega), if_pos (by omega)]
  congr 1
theorem getD_some {α : Type} {xs : List α} {i : Nat} (h : i < xs.length) (d : α) : xs[i]? = some (xs.getD i d) := by
  rw [List.getD_eq_getElem?_getD, List.getElem?_eq_getElem h]
  rfl
theorem sh_map (t : List (List Int)) : (t.map fun r => T.sh (dR r)) = (t.map dR).map T.sh := by
  rw [List.map_map]
  rfl
theorem map_set {α β : Type} (f : α → β) (xs : List α) (i : Nat) (a : α) : (xs.map f).set i (f a) = (xs.set i a).map f := (List.map_set ..).symm
theorem ers_set : ∀ (ts : List T) (i : Nat) (t : T), T.ers (ts.set i t) = (T.ers ts).set i t.er
  | [], _, _ => rfl
  | s :: ts, 0, t => rfl
  | s :: ts, i + 1, t => by
    show s.er :: T.ers (ts.set i t) = s.er :: (T.ers ts).set i t.er
    rw [ers_set ts i t]
theorem put_ix {ts : List T} {j : Nat} {s u : T} {π : List Sp1} (h : ts[j]? = some s) : T.put (.ix j :: π) u (.lst ts) = .lst (ts.set j (T.put π u s)) := by
  show (match ts[j]? with
    | some s => T.lst (ts.set j (T.put π u s))
    | none => T.lst ts) = _
  rw [h]
def gTab (ds : List D) (t : T) : Prop := ∃ ns p, ∃ b n : Nat, ds = [dR ns, .int b, .int p, .int n] ∧ Round p ∧ 1 ≤ n ∧ n ≤ 3 ∧ t = .sh (dT (tabL ns b p n))
end
/-! ### the law's own steps: says, spanned, rank -/
section
variable {M : Md}
def gSays (ds : List D) (t : T) : Prop := ∃ a b : Bool, ds = [.bl a, .bl b] ∧ t = .sh (.bl (decide (a = b)))
def gSpan (ds : List D) (t : T) : Prop := ∃ p rows, ∃ n : Nat, ds = [.int p, dT rows, .int n] ∧ Round p ∧ n ≤ 3 ∧ rows.length ≤ 3 ∧ (∀ r ∈ rows, RowOk p n r) ∧ t = .sh (dT (spanL p n rows))
theorem ok_span (B : BI M.mg) (F : FnE M "_law_spanned" s__law_spanned P__law_spanned) : DefOk M 2 "_law_spanned" gSpan := by
  refine def_okE F c__law_spanned (fun ds t ⟨p, rows, n, h, _⟩ => by rw [h]; rfl) fun X ds t hX ⟨p, rows, n, h, hp, hn, hl, hr, ht⟩ => ?_
  subst h ht
  have hp0 := hp.pos
  have h7 := hp.le
  have ep : ((p.toNat : Nat) : Int) = p := Int.toNat_of_nonneg (by omega)
  refine Ss.cons (Sm.set hX 3 (Ev.list (.cons (repT (n := n) (Ev.ls (Ev.listI (ns := [0]))) (nmS hX 2) (by omega)) .nil)) (Ss.frz 3 (d := dT [List.replicate n 0]) ?_ rfl (er_tT [List.replicate n 0])))
  refine Ss.consP (fun ρ => ρ = [some (.sh (.int p)), some (.sh (dT rows)), some (tI n), some (.sh (dT (spanL p n rows))), none, none, none, none, none, none])
    (Sm.forN (xs := rows) (en := dR) (fun j ρ => ρ = [some (.sh (.int p)), some (.sh (dT rows)), some (tI n), some (.sh (dT ((rows.take j).foldl (stepL p) [List.replicate n 0]))), none, none, none, none, none, none]) hX 4
      (ItF.list (nm hX 1)) rfl (fun j ρ h => by rw [h]; rfl) (fun j row ρ hj hI => ?_) fun ρ h => by rw [List.take_length] at h; exact h) fun ρ hρ => ?_
  · subst hI
    have so := span_take hp n hr j
    have hrow := hr row (List.mem_of_getElem? hj)
    have hj3 : j < rows.length := (List.getElem?_eq_some_iff.mp hj).1
    have hb := pow7 (show j ≤ 3 by omega)
    have hs : (rows.take (j + 1)).foldl (stepL p) [List.replicate n 0] = stepL p ((rows.take j).foldl (stepL p) [List.replicate n 0]) row := by
      rw [List.take_add_one, hj, List.foldl_append]
      rfl
    rw [hs]
    generalize (rows.take j).foldl (stepL p) [List.replicate n 0] = found at so
    have hfl : found.length ≤ 343 := Nat.le_trans so.len hb
    refine Ss.cons (Sm.ife (Te.cmp (CmpD.notInM hX.room eqb_dR (ok_dR row) (ok_dT found)) (nmS hX 4) (nmS hX 3)) (fun hq => ?_) fun hq => Ss.nil (Ss.drop 4 (Ss.nil ?_)))
    · rw [Bool.not_eq_true'] at hq
      refine Ss.cons (Sm.set hX 5 (Ev.list .nil) ?_)
      refine Ss.consP (fun ρ => ρ = [some (.sh (.int p)), some (.sh (dT rows)), some (tI n), some (.sh (dT found)), some (.sh (dR row)), some (tT (moreL p found row p.toNat)), none, none, none, none])
        (Sm.forN (xs := List.range p.toNat) (en := fun (i : Nat) => D.int (i : Int)) (fun l ρ => ρ = [some (.sh (.int p)), some (.sh (dT rows)), some (tI n), some (.sh (dT found)), some (.sh (dR row)), some (tT (moreL p found row l)), none, none, none, none]) hX 6
          (itRange hX B.range ((nmS hX 0).cast (congrArg D.int ep.symm)) (by omega)) rfl (fun l ρ h => by rw [h]; rfl) (fun l i ρ hl hI => ?_) fun ρ h => by rw [List.length_range] at h; exact h) fun ρ hρ => ?_
      · subst hI
        obtain ⟨hl', rfl⟩ := rng_at hl
        refine Ss.consP (fun ρ => ρ = [some (.sh (.int p)), some (.sh (dT rows)), some (tI n), some (.sh (dT found)), some (.sh (dR row)), some (tT (moreL p found row (i + 1))), some (.sh (.int i)), none, none, none])
          (Sm.forN (xs := found) (en := dR) (fun m ρ => ρ = [some (.sh (.int p)), some (.sh (dT rows)), some (tI n), some (.sh (dT found)), some (.sh (dR row)), some (tT (moreL p found row i ++ (found.take m).map (addL p row i))), some (.sh (.int i)), none, none, none]) hX 7
            (ItF.list (nm hX 3)) (by rw [List.take_zero, List.map_nil, List.append_nil]; rfl) (fun m ρ h => by rw [h]; rfl) (fun m one ρ hm hI => ?_) fun ρ h => ?_) fun ρ hρ => ?_
        · subst hI
          have hone := so.row one (List.mem_of_getElem? hm)
          refine Ss.cons (Sm.app (ts := (moreL p found row i ++ (found.take m).map (addL p row i)).map tR) (nmN hX 5) (lcZ (xs := one.zip row) (en := fun z => .int z.1) (en' := fun z => .int z.2) hX 8 9 (itZipC (f := D.int) (g := D.int) hX B.zip (Ev.lsS (nm hX 7)) (Ev.lsS (nm hX 4))) (fun X' b hX' z hz => Ev.mod (Ev.add (nmS hX' 8) (Ev.mul (nmS hX' 6) (nmS hX' 9) (.inl (by omega))).rd).rd (nmS hX' 0) hp0) (sz (by rw [List.length_zip, hone.len]; omega))) (Ss.drop 7 (Ss.nil ?_)) ?_)
          · have e1 : moreL p found row i ++ (found.take (m + 1)).map (addL p row i) = (moreL p found row i ++ (found.take m).map (addL p row i)) ++ [addL p row i one] := by
              rw [List.take_add_one, hm, List.map_append, ← List.append_assoc]
              rfl
            rw [e1]
            generalize moreL p found row i ++ (found.take m).map (addL p row i) = acc
            show [_, _, _, _, _, some (T.lst (acc.map tR ++ [T.lst _])), _, _, _, _] = [_, _, _, _, _, some (T.lst ((acc ++ [addL p row i one]).map tR)), _, _, _, _]
            rw [List.map_append]
            show _ = [_, _, _, _, _, some (T.lst (acc.map tR ++ [T.lst ((addL p row i one).map tI)])), _, _, _, _]
            unfold addL
            rw [List.map_map]
            rfl
          · rw [List.length_map, List.length_append, List.length_map, List.length_take, moreL_len]
            have : i * found.length ≤ 7 * found.length := Nat.mul_le_mul_right _ (by omega)
            exact Nat.lt_of_le_of_lt (show _ ≤ 8 * 343 by omega) (by decide)
        · rw [List.take_length] at h
          show _ = _
          rw [h]
          unfold moreL
          rw [List.range_succ, List.map_append, List.flatten_append]
          simp
        · subst hρ
          exact Ss.drop 6 (Ss.nil rfl)
      · subst hρ
        refine Ss.frz 5 (d := dT (moreL p found row p.toNat)) (Ss.cons (Sm.set hX 3 (nm hX 5) (Ss.nil (Ss.drop 4 (Ss.drop 5 (Ss.nil ?_)))))) rfl (er_tT _)
        show _ = _
        unfold stepL
        rw [if_neg (by rw [hq]; exact Bool.false_ne_true)]
        rfl
    · rw [Bool.not_eq_false'] at hq
      show _ = _
      unfold stepL
      rw [if_pos hq]
      rfl
  · subst hρ
    exact Ss.cons (Sm.ret (nm hX 3) rfl)
def gRank (ds : List D) (t : T) : Prop := ∃ p rows, ∃ n : Nat, ds = [.int p, dT rows, .int n] ∧ Round p ∧ n ≤ 3 ∧ rows.length ≤ 3 ∧ (∀ r ∈ rows, RowOk p n r) ∧ t = tI (rankL p n rows)
theorem ok_rank (B : BI M.mg) (F : FnE M "_law_rank" s__law_rank P__law_rank) (H1 : DefOk M 2 "_law_spanned" gSpan) : DefOk M 3 "_law_rank" gRank := by
  refine def_okE F c__law_rank (fun ds t ⟨p, rows, n, h, _⟩ => by rw [h]; rfl) fun X ds t hX ⟨p, rows, n, h, hp, hn, hl, hr, ht⟩ => ?_
  subst h ht
  have hp0 := hp.pos
  have hp2 := hp.two
  have h7 := hp.le
  refine Ss.cons (Sm.par hX 3 4 (.cons ((e_len hX B.len (Ev.rd (Ev.call hX H1 (.cons (nm hX 0) (.cons (nm hX 1) (.cons (nm hX 2) .nil))) ⟨p, rows, n, rfl, hp, hn, hl, hr, rfl⟩))).cast (t' := tI (spanL p n rows).length) (by rw [List.length_map])) (.cons Ev.int .nil)) ?_)
  refine Ss.cons (Sm.while hX (fun m ρ => ∃ f : Nat, rkL p m m f = rankL p n rows ∧ ρ = [some (.sh (.int p)), some (.sh (dT rows)), some (tI n), some (tI (m : Nat)), some (tI f)]) ⟨_, 0, rfl, rfl⟩ fun m ρ ⟨f, e, hρ⟩ => ?_)
  subst hρ
  refine ⟨_, Te.cmp CmpD.gt (nmS hX 3) Ev.int.rd, fun hc => ?_, fun hc => ?_⟩
  · have hm : 1 < m := by
      have := of_decide_eq_true hc
      omega
    have hd : m / p.toNat < m := Nat.div_lt_self (by omega) (by omega)
    refine Ss.cons (Sm.par hX 3 4 (.cons ((Ev.fdiv (nmS hX 3) (nmS hX 0) ⟨hp0, by omega⟩).cast (t' := tI ((m / p.toNat : Nat) : Int)) ?_) (.cons ((Ev.add (nmS hX 4) Ev.int.rd).cast (t' := tI ((f + 1 : Nat) : Int)) rfl) .nil)) (Ss.nil ⟨m / p.toNat, hd, f + 1, ?_, rfl⟩))
    · show tI _ = tI _
      rw [Int.natCast_ediv, Int.toNat_of_nonneg (by omega)]
    · rw [← e]
      obtain ⟨m', rfl⟩ : ∃ m', m = m' + 1 := ⟨m - 1, by omega⟩
      show _ = (if 1 < m' + 1 then _ else _)
      rw [if_pos hm]
      exact rkL_fuel hp2 _ _ _ _ (Nat.le_refl _) (by omega)
  · have hm : ¬ 1 < m := by
      have := of_decide_eq_false hc
      omega
    refine Ss.cons (Sm.ret (nm hX 4) ?_)
    show tI _ = tI _
    rw [← e, rkL_stop p m f hm]
end
/-! ### restturns/clearing.py -/
abbrev tS (rs : List (List Int)) : T := .lst (rs.map fun r => T.sh (dR r))
abbrev dNs (ls : List Nat) : D := .lst (ls.map fun (l : Nat) => D.int l)
theorem er_tS (rs : List (List Int)) : (tS rs).er = dT rs := by
  show D.lst _ = D.lst _
  rw [ers_mapG _ dR fun _ => rfl]
theorem er_tNs (ls : List Nat) : T.er (.lst (ls.map fun (l : Nat) => tI l)) = dNs ls := by
  show D.lst _ = D.lst _
  rw [ers_mapG _ (fun (l : Nat) => D.int l) fun _ => rfl]
theorem ok_dNs (ls : List Nat) : Ok 1 (dNs ls) := ok_lst fun d hd => by
  obtain ⟨x, _, rfl⟩ := List.mem_map.mp hd
  exact ok_int
theorem rowAt_get {rows : List (List Int)} {i : Nat} (h : i < rows.length) : rows[i]? = some (rowAt rows i) := by
  unfold rowAt
  rw [List.getD_eq_getElem?_getD, List.getElem?_eq_getElem h]
  rfl
theorem atI_row {rows : List (List Int)} {i : Nat} (h : i < rows.length) : atI (rows.map dR) (i : Int) = some (dR (rowAt rows i)) := by
  refine atI_nat ?_
  rw [List.getElem?_map, rowAt_get h]
  rfl
theorem atI_rowS {rows : List (List Int)} {i : Nat} (h : i < rows.length) : atI (rows.map fun r => T.sh (dR r)) (i : Int) = some (T.sh (dR (rowAt rows i))) := by
  refine atI_nat ?_
  rw [List.getElem?_map, rowAt_get h]
  rfl
theorem rowAt_set {rows : List (List Int)} {i j : Nat} {r : List Int} (h : i < rows.length) : rowAt (rows.set i r) j = if j = i then r else rowAt rows j := by
  unfold rowAt
  rw [List.getD_eq_getElem?_getD, List.getElem?_set]
  by_cases e : j = i
  · subst e
    rw [if_pos rfl, if_pos h, if_pos rfl]
    rfl
  · rw [if_neg fun z => e z.symm, if_neg e, ← List.getD_eq_getElem?_getD]
/-- the rows while they are cleared by the one at here -/
def clrTo (p : Int) (rows : List (List Int)) (here spot : Nat) (lead : List Int) (l : Nat) : List (List Int) := (List.range rows.length).map fun i => if i = here then lead else if i < l then lessL p (rowAt rows i) lead spot else rowAt rows i
theorem clrTo_len (p : Int) (rows : List (List Int)) (here spot : Nat) (lead : List Int) (l : Nat) : (clrTo p rows here spot lead l).length = rows.length := by
  unfold clrTo
  rw [List.length_map, List.length_range]
theorem clrTo_at {p : Int} {rows : List (List Int)} {here spot l i : Nat} {lead : List Int} (h : i < rows.length) : rowAt (clrTo p rows here spot lead l) i = if i = here then lead else if i < l then lessL p (rowAt rows i) lead spot else rowAt rows i := by
  unfold clrTo
  show ((List.range rows.length).map _).getD i [] = _
  rw [getD_range _ _ h]
theorem clrTo_0 {p : Int} {rows : List (List Int)} {here spot : Nat} {lead : List Int} (h : here < rows.length) : rows.set here lead = clrTo p rows here spot lead 0 := by
  refine tab_rows_ext (n := rows.length) (List.length_set ..) (clrTo_len ..) fun i hi => ?_
  rw [rowAt_set h, clrTo_at hi, if_neg (Nat.not_lt_zero i)]
theorem clrTo_all {p : Int} {rows : List (List Int)} {here spot : Nat} {lead : List Int} : clrTo p rows here spot lead rows.length = clrL p rows here spot lead := by
  refine tab_rows_ext (n := rows.length) (clrTo_len ..) (clr_len ..) fun i hi => ?_
  rw [clrTo_at hi, clr_at hi, if_pos hi]
theorem clrTo_here {p : Int} {rows : List (List Int)} {here spot : Nat} {lead : List Int} : clrTo p rows here spot lead (here + 1) = clrTo p rows here spot lead here := by
  refine tab_rows_ext (n := rows.length) (clrTo_len ..) (clrTo_len ..) fun i hi => ?_
  rw [clrTo_at hi, clrTo_at hi]
  by_cases e : i = here
  · rw [if_pos e, if_pos e]
  · rw [if_neg e, if_neg e]
    by_cases q : i < here
    · rw [if_pos (by omega), if_pos q]
    · rw [if_neg (by omega), if_neg q]
theorem clrTo_next {p : Int} {rows : List (List Int)} {here spot l : Nat} {lead : List Int} (h : l < rows.length) (ne : l ≠ here) : (clrTo p rows here spot lead l).set l (lessL p (rowAt rows l) lead spot) = clrTo p rows here spot lead (l + 1) := by
  refine tab_rows_ext (n := rows.length) (by rw [List.length_set, clrTo_len]) (clrTo_len ..) fun i hi => ?_
  rw [rowAt_set (by rw [clrTo_len]; exact h), clrTo_at hi, clrTo_at hi]
  by_cases e : i = l
  · subst e
    rw [if_pos rfl, if_neg ne, if_pos (by omega)]
  · rw [if_neg e]
    by_cases q : i = here
    · rw [if_pos q, if_pos q]
    · rw [if_neg q, if_neg q]
      by_cases z : i < l
      · rw [if_pos z, if_pos (by omega)]
      · rw [if_neg z, if_neg (by omega)]
section
variable {M : Md}
def gBack (ds : List D) (t : T) : Prop := ∃ p r, ds = [.int p, .int r] ∧ Round p ∧ (0 < r ∧ r < p) ∧ t = tI (backL p r)
theorem ok_back_of (B : BI M.mg) (F : FnE M "back_of" s_back_of P_back_of) : DefOk M 1 "back_of" gBack := by
  refine def_okE F c_back_of (fun ds t ⟨p, r, h, _⟩ => by rw [h]; rfl) fun X ds t hX ⟨p, r, h, hp, hr, ht⟩ => ?_
  subst h ht
  have hp0 := hp.pos
  have h7 := hp.le
  let fl := ((List.range (p - 1).toNat).filter fun (i : Nat) => decide (r * (1 + (i : Int)) % p = 1))
  have hb : backL p r = (fl.map fun (i : Nat) => 1 + (i : Int)).getD 0 0 := by
    unfold backL
    rw [List.filter_map]
    rfl
  have ne : fl ≠ [] := fun z => by
    have := (back_ok hp hr.1 hr.2).1
    rw [hb, z] at this
    have e : r * (0 : Int) % p = 1 := this
    rw [Int.mul_zero, Int.zero_emod] at e
    cases e
  have at0 : atI (fl.map fun (i : Nat) => D.int (1 + (i : Int))) ((0 : Nat) : Int) = some (.int (backL p r)) := by
    refine atI_nat ?_
    rw [hb]
    cases hf : fl with
    | nil => exact absurd hf ne
    | cons a l => rfl
  refine Ss.cons (Sm.ret (Ev.ix (ds := fl.map fun (i : Nat) => D.int (1 + (i : Int))) ((lcF (xs := List.range (p - 1).toNat) (en := fun (i : Nat) => D.int (1 + (i : Int))) (g := fun (i : Nat) => tI (1 + (i : Int))) (q := fun (i : Nat) => decide (r * (1 + (i : Int)) % p = 1)) hX 2 (itRange2 hX B.range Ev.int.rd (nmS hX 0) rfl (by omega)).c
    (fun X' b hX' i hi => ⟨Te.cmp CmpD.eqI (Ev.mod (Ev.mul (nmS hX' 1) (nmS hX' 2) (.inl (by omega))).rd (nmS hX' 0) hp0).rd Ev.int.rd, fun _ => nm hX' 2⟩) (sz (by rw [List.length_range]; omega))).fz' ?_) Ev.int.rd at0) rfl)
  show D.lst _ = D.lst _
  rw [ers_mapG _ (fun (i : Nat) => D.int (1 + (i : Int))) fun _ => rfl]
def gLess (ds : List D) (t : T) : Prop := ∃ p row lead, ∃ spot w : Nat, ds = [.int p, dR row, dR lead, .int spot] ∧ Round p ∧ w ≤ 1000 ∧ RowOk p w row ∧ RowOk p w lead ∧ spot < w ∧ t = tR (lessL p row lead spot)
theorem ok_less_of (B : BI M.mg) (F : FnE M "less_of" s_less_of P_less_of) : DefOk M 1 "less_of" gLess := by
  refine def_okE F c_less_of (fun ds t ⟨p, row, lead, spot, w, h, _⟩ => by rw [h]; rfl) fun X ds t hX ⟨p, row, lead, spot, w, h, hp, hw, h1, h2, hs, ht⟩ => ?_
  subst h ht
  have hp0 := hp.pos
  have h7 := hp.le
  have hr := h1.rest _ (getD_mem 0 (show spot < row.length by rw [h1.len]; exact hs))
  refine Ss.cons (Sm.ret (lcZ (xs := row.zip lead) (en := fun q => .int q.1) (en' := fun q => .int q.2) hX 4 5 (itZipC (f := D.int) (g := D.int) hX B.zip (Ev.lsS (nm hX 1)) (Ev.lsS (nm hX 2))) (fun X' b hX' q hm => Ev.mod (Ev.sub (nmS hX' 4) (Ev.mul (Rd.ix (nmS hX' 1) (nmS hX' 3) (atI_getD (by rw [h1.len]; exact hs))) (nmS hX' 5) (.inl (by omega))).rd).rd (nmS hX' 0) hp0) (sz (by rw [List.length_zip, h1.len, h2.len]; omega))) ?_)
  show T.lst _ = T.lst _
  unfold lessL
  rw [List.map_map]
  rfl
structure ClOk (p : Int) (w : Nat) (rows : List (List Int)) : Prop where
  rd : Round p
  wl : w ≤ 1000
  ml : rows.length ≤ 1000
  ok : ∀ r ∈ rows, RowOk p w r
def gCleared (ds : List D) (t : T) : Prop := ∃ p rows, ∃ w wide : Nat, ds = [.int p, dT rows, .int wide] ∧ ClOk p w rows ∧ wide ≤ w ∧ t = .sh (.tup [dT (clearTo p rows wide).1, dNs (clearTo p rows wide).2])
theorem ok_cleared (B : BI M.mg) (F : FnE M "cleared" s_cleared P_cleared) (H1 : DefOk M 1 "back_of" gBack) (H2 : DefOk M 1 "less_of" gLess) : DefOk M 2 "cleared" gCleared := by
  refine def_okE F c_cleared (fun ds t ⟨p, rows, w, wide, h, _⟩ => by rw [h]; rfl) fun X ds t hX ⟨p, rows, w, wide, h, C, hwd, ht⟩ => ?_
  subst h ht
  have hp := C.rd
  have hp0 := hp.pos
  have h7 := hp.le
  have hw := C.wl
  have hm := C.ml
  refine Ss.cons (Sm.parO hX 1 3 (t := tS rows) (u := .lst []) (.cons (lcN (xs := rows) (en := dR) (g := fun r => T.sh (dR r)) hX 4 (ItC.list (Ev.lsS (nm hX 1))) (fun X' b hX' r hr => (e_listOf hX' B.list (Ev.lsS (nm hX' 4))).fz' (er_shs _)) (sz hm)) (.cons (Ev.list .nil) .nil)) ?_)
  refine Ss.consP (fun ρ => ρ = [some (.sh (.int p)), some (tS (clearTo p rows wide).1), some (.sh (.int wide)), some (.lst ((clearTo p rows wide).2.map fun (l : Nat) => tI l)), none, none, none, none, none, none, none, none])
    (Sm.forN (xs := List.range wide) (en := fun (i : Nat) => D.int (i : Int)) (fun j ρ => ρ = [some (.sh (.int p)), some (tS (clearTo p rows j).1), some (.sh (.int wide)), some (.lst ((clearTo p rows j).2.map fun (l : Nat) => tI l)), none, none, none, none, none, none, none, none]) hX 5
      (itRange hX B.range (nmS hX 2) (by omega)) rfl (fun j ρ h => by rw [h]; rfl) (fun j a ρ hj hI => ?_) fun ρ h => by rw [List.length_range] at h; exact h) fun ρ hρ => ?_
  · subst hI
    obtain ⟨hj', rfl⟩ := rng_at hj
    have g := clear_inv hp C.ok a
    rw [clearTo_succ]
    generalize clearTo p rows a = st at g
    obtain ⟨rs, leads⟩ := st
    obtain ⟨len, ok, to, fro, km, lt, inc, del, low⟩ := g
    simp only at len ok to fro km lt inc del low
    generalize hk : leads.length = k at km
    have hlen : rs.length ≤ 1000 := by omega
    have erl : T.er (.lst (leads.map fun (l : Nat) => tI l)) = .lst (leads.map fun (l : Nat) => D.int l) := er_tNs leads
    let fr := (List.range (rs.length - k)).filter fun i => !decide ((rowAt rs (k + i)).getD a 0 = 0)
    refine Ss.cons (Sm.lcF (xs := List.range (rs.length - k)) (en := fun (i : Nat) => D.int ((k : Int) + (i : Int))) (g := fun (i : Nat) => tI ((k : Int) + (i : Int))) (q := fun i => !decide ((rowAt rs (k + i)).getD a 0 = 0)) hX 6 7
      (itRange2 (lo := k) (j := rs.length) hX B.range ((e_len hX B.len (nmO hX 3 rfl erl)).rd.cast (by rw [List.length_map, hk]; rfl)) ((e_len hX B.len (nmO hX 1 rfl (er_tS rs))).rd.cast (by rw [List.length_map]; rfl)) (by omega) (by omega)).c
      (fun X' b hX' i hi => ⟨?_, fun _ => nm hX' 7⟩) (sz (by rw [List.length_range]; omega)) ?_)
    · have hi := List.mem_range.mp hi
      have hki : k + i < rs.length := by omega
      have o := ok _ (rowAt_mem hki)
      exact (Te.cmp CmpD.neI (Rd.ix (Rd.ix (nmO hX' 1 rfl (er_tS rs)) (nmS hX' 7) (by rw [← Int.natCast_add]; exact atI_row hki)) (nmS hX' 5) (atI_getD (by rw [o.len]; omega))) Ev.int.rd)
    have hfr : freeL rs leads.length a = fr := by rw [hk]; rfl
    show Ss X [_, _, _, _, _, _, some (.lst (fr.map fun (i : Nat) => tI ((k : Int) + (i : Int)))), _, _, _, _, _] _ _
    generalize fr = fr at hfr
    have erf : T.er (.lst (fr.map fun (i : Nat) => tI ((k : Int) + (i : Int)))) = .lst (fr.map fun (i : Nat) => D.int ((k : Int) + (i : Int))) := by
      show D.lst _ = D.lst _
      rw [ers_mapG _ (fun (i : Nat) => D.int ((k : Int) + (i : Int))) fun _ => rfl]
    have okf : Ok 1 (.lst (fr.map fun (i : Nat) => D.int ((k : Int) + (i : Int)))) := ok_map fun _ => ok_int
    refine Ss.cons (Sm.ife (q := !decide (fr = [])) (Te.of (Te.cmp (CmpD.ne hX.room okf (ok_dR [])) (nmO hX 6 rfl erf) (Ev.list .nil).rd) ?_) (fun hq => ?_) fun hq => ?_)
    · cases fr with
      | nil => rfl
      | cons i l => rfl
    · -- one is free
      rw [Bool.not_eq_true'] at hq
      obtain ⟨i, l, rfl⟩ : ∃ i l, fr = i :: l := by
        cases fr with
        | nil => cases hq
        | cons i l => exact ⟨i, l, rfl⟩
      have hi : i ∈ freeL rs leads.length a := by rw [hfr]; exact List.mem_cons_self ..
      unfold freeL at hi
      rw [List.mem_filter, List.mem_range, hk] at hi
      obtain ⟨hi1, hi2⟩ := hi
      have hi3 : (rowAt rs (k + i)).getD a 0 ≠ 0 := fun z => by
        rw [decide_eq_true z] at hi2
        cases hi2
      have hkm : k < rs.length := by omega
      have ham : k + i < rs.length := by omega
      have stp : clearStep p (rs, leads) a = (clrL p (swapL rs (k + i) k) k a (scaleL p (rowAt (swapL rs (k + i) k) k) a), leads ++ [a]) := by
        unfold clearStep
        show (match freeL rs leads.length a with | [] => _ | i :: _ => _) = _
        rw [hfr, hk]
      rw [stp]
      refine Ss.cons (Sm.par hX 7 8 (.cons (Pa.ev (Pa.ix (nmP hX 6) Ev.int.rd (atI_nat (j := 0) rfl))) (.cons ((e_len hX B.len (nmO hX 3 rfl erl)).cast (t' := tI k) (by rw [List.length_map, hk])) .nil)) ?_)
      rw [show ((k : Int) + (i : Int)) = ((k + i : Nat) : Int) from (Int.natCast_add k i).symm]
      refine Ss.cons (Sm.sto (Ev.tup (.cons (Pa.ev (Pa.ix (nmP hX 1) (nmS hX 8) (atI_rowS hkm))) (.cons (Pa.ev (Pa.ix (nmP hX 1) (nmS hX 7) (atI_rowS ham))) .nil)))
        (Gs.tup2 hX (Gs.sub (ts := rs.map fun r => T.sh (dR r)) (nmN hX 1) (nmS hX 7) (by rw [List.length_map]; exact ixN_nat ham) (by rw [List.getElem?_map, rowAt_get ham]; rfl)) (Gs.sub (ts := (rs.map fun r => T.sh (dR r)).set (k + i) (T.sh (dR (rowAt rs k)))) (nmN hX 1) (nmS hX 8) (by rw [List.length_set, List.length_map]; exact ixN_nat hkm) (getD_some (by rw [List.length_set, List.length_map]; exact hkm) (T.sh .non)))) ?_ (hw := by rw [swapped_eq, hX.s]; rfl))
      have esw : ((rs.map fun r => T.sh (dR r)).set (k + i) (T.sh (dR (rowAt rs k)))).set k (T.sh (dR (rowAt rs (k + i)))) = (swapL rs (k + i) k).map fun r => T.sh (dR r) := by
        unfold swapL
        rw [List.map_set, List.map_set]
      show Ss X [_, some (T.lst (((rs.map fun r => T.sh (dR r)).set (k + i) (T.sh (dR (rowAt rs k)))).set k (T.sh (dR (rowAt rs (k + i)))))), _, _, _, _, _, _, _, _, _, _] _ _
      rw [esw]
      have sl := swap_len rs (k + i) k
      have sa := swap_at (rows := rs) (a := k + i) (b := k) (i := k) ham hkm
      have sok : ∀ r ∈ swapL rs (k + i) k, RowOk p w r := fun r hr => by
        unfold swapL at hr
        rcases List.mem_or_eq_of_mem_set hr with z | z
        · rcases List.mem_or_eq_of_mem_set z with z | z
          · exact ok r z
          · rw [z]
            exact ok _ (rowAt_mem hkm)
        · rw [z]
          exact ok _ (rowAt_mem ham)
      rw [if_pos rfl] at sa
      generalize swapL rs (k + i) k = rs1 at sl sa sok
      have hkm1 : k < rs1.length := by omega
      have piv : (rowAt rs1 k).getD a 0 ≠ 0 := by rw [sa]; exact hi3
      have okk := sok _ (rowAt_mem hkm1)
      have pr := rz_ne okk piv
      have bk := back_ok hp pr.1 pr.2
      refine Ss.cons (Sm.set hX 9 (Ev.call hX H1 (.cons (nm hX 0) (.cons (Rd.evI (Rd.ix (Rd.ix (nmO hX 1 rfl (er_tS rs1)) (nmS hX 8) (atI_row hkm1)) (nmS hX 5) (atI_getD (by rw [okk.len]; omega)))) .nil)) ⟨p, _, rfl, hp, pr, rfl⟩) ?_)
      refine Ss.cons (Sm.seti (ts := rs1.map fun r => T.sh (dR r)) (u := .sh (dR (scaleL p (rowAt rs1 k) a))) ((lcN (xs := rowAt rs1 k) (en := D.int) hX 10 (ItC.list (Ev.lsS (Pa.ev (Pa.ix (nmP hX 1) (nmS hX 8) (atI_rowS hkm1))))) (fun X' b hX' x hx => Ev.mod (Ev.mul (nmS hX' 10) (nmS hX' 9) (.inl (by have := okk.rest x hx; omega))).rd (nmS hX' 0) hp0) (sz (by rw [okk.len]; omega))).fz' ?_) (nmN hX 1) (nmS hX 8) ?_ (by rw [List.length_map]; exact ixN_nat hkm1) (by rw [List.getElem?_map, rowAt_get hkm1]; rfl))
      · show D.lst _ = D.lst _
        rw [ers_mapG _ (fun x => D.int (x * backL p ((rowAt rs1 k).getD a 0) % p)) fun _ => rfl]
        unfold scaleL
        rw [List.map_map]
        rfl
      have okL := scale_ok hp0 (spot := a) okk.len
      generalize scaleL p (rowAt rs1 k) a = lead at okL
      have est : (rs1.map fun r => T.sh (dR r)).set k (T.sh (dR lead)) = (clrTo p rs1 k a lead 0).map fun r => T.sh (dR r) := by
        rw [← clrTo_0 hkm1, List.map_set]
      show Ss X [_, some (T.lst ((rs1.map fun r => T.sh (dR r)).set k (T.sh (dR lead)))), _, _, _, _, _, _, _, _, _, _] _ _
      rw [est]
      refine Ss.consP (fun ρ => ρ = [some (.sh (.int p)), some (tS (clrTo p rs1 k a lead rs1.length)), some (.sh (.int wide)), some (.lst (leads.map fun (l : Nat) => tI l)), none, some (.sh (.int a)), some (.lst ((i :: l).map fun (i : Nat) => tI ((k : Int) + (i : Int)))), some (.sh (.int ((k + i : Nat) : Int))), some (tI k), some (tI (backL p ((rowAt rs1 k).getD a 0))), none, none])
        (Sm.forN (xs := List.range rs1.length) (en := fun (i : Nat) => D.int (i : Int)) (fun c ρ => ρ = [some (.sh (.int p)), some (tS (clrTo p rs1 k a lead c)), some (.sh (.int wide)), some (.lst (leads.map fun (l : Nat) => tI l)), none, some (.sh (.int a)), some (.lst ((i :: l).map fun (i : Nat) => tI ((k : Int) + (i : Int)))), some (.sh (.int ((k + i : Nat) : Int))), some (tI k), some (tI (backL p ((rowAt rs1 k).getD a 0))), none, none]) hX 11
          (itRange hX B.range ((e_len hX B.len (nmO hX 1 rfl (er_tS _))).rd.cast (by rw [List.length_map, clrTo_len]; rfl)) (by omega)) rfl (fun c ρ h => by rw [h]; rfl) (fun c o ρ hc hI => ?_) fun ρ h => by rw [List.length_range] at h; exact h) fun ρ hρ => ?_
      · subst hI
        obtain ⟨hc', rfl⟩ := rng_at hc
        have hol : o < (clrTo p rs1 k a lead o).length := by rw [clrTo_len]; exact hc'
        have hkl : k < (clrTo p rs1 k a lead o).length := by rw [clrTo_len]; exact hkm1
        refine Ss.cons (Sm.ife (q := !decide (o = k)) (Te.of (Te.cmp CmpD.neI (nmS hX 11) (nmS hX 8)) ?_) (fun hq => ?_) fun hq => ?_)
        · by_cases e : o = k
          · rw [decide_eq_true e, decide_eq_true (by omega)]
          · rw [decide_eq_false e, decide_eq_false (by omega)]
        · have hne : o ≠ k := fun z => by rw [decide_eq_true z] at hq; cases hq
          have er1 : rowAt (clrTo p rs1 k a lead o) o = rowAt rs1 o := by rw [clrTo_at hc', if_neg hne, if_neg (Nat.lt_irrefl o)]
          have er2 : rowAt (clrTo p rs1 k a lead o) k = lead := by rw [clrTo_at hkm1, if_pos rfl]
          have oo := sok _ (rowAt_mem hc')
          refine Ss.cons (Sm.seti (ts := (clrTo p rs1 k a lead o).map fun r => T.sh (dR r)) (u := .sh (dR (lessL p (rowAt rs1 o) lead a))) ((Ev.call hX H2 (.cons (nm hX 0) (.cons (Pa.ev (Pa.ix (nmP hX 1) (nmS hX 11) (atI_rowS hol))) (.cons (Pa.ev (Pa.ix (nmP hX 1) (nmS hX 8) (atI_rowS hkl))) (.cons (nm hX 5) .nil)))) ⟨p, _, _, a, w, by rw [er1, er2]; rfl, hp, hw, oo, okL, by omega, rfl⟩).fz' (er_tR _)) (nmN hX 1) (nmS hX 11) (Ss.drop 11 (Ss.nil (Ss.nil ?_))) (by rw [List.length_map]; exact ixN_nat hol) (by rw [List.getElem?_map, rowAt_get hol]; rfl))
          have e : T.lst (((clrTo p rs1 k a lead o).map fun r => T.sh (dR r)).set o (T.sh (dR (lessL p (rowAt rs1 o) lead a)))) = tS (clrTo p rs1 k a lead (o + 1)) := by
            rw [← clrTo_next hc' hne]
            show T.lst _ = T.lst _
            rw [List.map_set]
          show [_, some (T.lst (((clrTo p rs1 k a lead o).map fun r => T.sh (dR r)).set o (T.sh (dR (lessL p (rowAt rs1 o) lead a))))), _, _, _, _, _, _, _, _, _, _] = _
          rw [e]
        · rw [Bool.not_eq_false', decide_eq_true_eq] at hq
          refine Ss.nil (Ss.drop 11 (Ss.nil ?_))
          show _ = _
          subst hq
          rw [clrTo_here]
          rfl
      · subst hρ
        rw [clrTo_all]
        refine Ss.cons (Sm.app (ts := leads.map fun (l : Nat) => tI l) (nmN hX 3) (nm hX 5) (Ss.drop 5 (Ss.drop 6 (Ss.drop 7 (Ss.drop 8 (Ss.drop 9 (Ss.nil (Ss.nil ?_))))))) ?_) 
        · show _ = _
          rw [List.map_append]
          rfl
        · rw [List.length_map, hk]
          exact Nat.lt_of_lt_of_le (show k < 1000 by omega) (sz (Nat.le_refl _))
    · rw [Bool.not_eq_false', decide_eq_true_eq] at hq
      have stp : clearStep p (rs, leads) a = (rs, leads) := by
        unfold clearStep
        show (match freeL rs leads.length a with | [] => _ | i :: _ => _) = _
        rw [hfr, hq]
      rw [stp]
      exact Ss.nil (Ss.drop 5 (Ss.drop 6 (Ss.nil rfl)))
  · subst hρ
    refine Ss.frz 1 (d := dT (clearTo p rows wide).1) (Ss.frz 3 (d := dNs (clearTo p rows wide).2) ?_ rfl (er_tNs _)) rfl (er_tS _)
    exact Ss.cons (Sm.ret (Ev.tup (.cons (nm hX 1) (.cons (nm hX 3) .nil))) rfl)
def gRankOf (ds : List D) (t : T) : Prop := ∃ p rows, ∃ w : Nat, ds = [.int p, dT rows] ∧ ClOk p w rows ∧ t = tI (rankG p rows)
theorem ok_rank_of (B : BI M.mg) (F : FnE M "rank_of" s_rank_of P_rank_of) (H1 : DefOk M 2 "cleared" gCleared) : DefOk M 3 "rank_of" gRankOf := by
  refine def_okE F c_rank_of (fun ds t ⟨p, rows, w, h, _⟩ => by rw [h]; rfl) fun X ds t hX ⟨p, rows, w, h, C, ht⟩ => ?_
  subst h ht
  refine Ss.cons (Sm.ret (Ev.ifx (p := decide (rows = [])) (Te.of (Te.cmp (CmpD.eq hX.room (ok_dT rows) (ok_dT [])) (nmS hX 1) (Ev.list .nil).rd) (eqb_dT rows [])) (fun h => ?_) fun h => ?_) rfl)
  · have e := of_decide_eq_true h
    subst e
    exact Ev.int
  · have e := of_decide_eq_false h
    have hl : 0 < rows.length := List.length_pos_iff.mpr e
    have hw : (rowAt rows 0).length = w := (C.ok _ (rowAt_mem hl)).len
    refine (e_len hX B.len (Rd.ixT (ds := [dT (clearTo p rows w).1, dNs (clearTo p rows w).2]) (Ev.rd (Ev.call hX H1 (.cons (nm hX 0) (.cons (nm hX 1) (.cons ((e_len hX B.len (Rd.ix (nmS hX 1) Ev.int.rd (atI_row hl))).cast (t' := tI w) (by rw [List.length_map, hw])) .nil))) ⟨p, rows, w, w, rfl, C, Nat.le_refl _, rfl⟩)) Ev.int.rd rfl)).cast ?_
    show tI _ = tI _
    unfold rankG
    rw [if_neg e, List.length_map, hw]
end
/-! ### small helps -/
def tabB (p : Int) (n : Nat) (t : List (List Int)) : Bool := decide (t.length = n) && t.all fun r => isRow p r n
theorem tabB_ok {p : Int} {n : Nat} {t : List (List Int)} (h : tabB p n t = true) : Tab p n t := by
  unfold tabB at h
  simp only [Bool.and_eq_true, decide_eq_true_eq, List.all_eq_true] at h
  exact ⟨h.1, fun r hr => ⟨(isRow_ok (h.2 r hr)).len, (isRow_ok (h.2 r hr)).rest⟩⟩
theorem tabB_is {p : Int} {n : Nat} (h1 : 1 ≤ n) (h3 : n ≤ 3) (t : List (List Int)) : (isTable p t && decide ((t.length : Int) = n)) = tabB p n t := by
  unfold tabB isTable
  by_cases e : t.length = n
  · subst e
    rw [decide_eq_true (by omega), decide_eq_true (by omega), decide_eq_true rfl, decide_eq_true rfl]
    simp
  · rw [decide_eq_false (show ¬ (t.length : Int) = n by omega), decide_eq_false e]
    simp
theorem cutD_1 {α : Type} (xs : List α) (f : α → D) : cutD (xs.map f) (some 1) none = (xs.drop 1).map f := by
  unfold cutD
  have e : HT.sIx (xs.map f).length 0 (some 1) = min 1 (xs.map f).length := HT.sIx_nat _ _ 1
  rw [HT.sIx_none, e, List.take_of_length_le (by rw [List.length_drop]; exact Nat.le_refl _), List.length_map, ← List.map_drop]
  cases xs with
  | nil => rfl
  | cons x xs => rw [show min 1 (x :: xs).length = 1 from by rw [List.length_cons]; omega]
theorem ls_cut1 {α : Type} {X : Cx} {ρ : Rho} {a lo : Expr} {p2 pos : Pos} {xs : List α} {f : α → D} (h : Ls X ρ a (xs.map f)) (hl : Rd X ρ lo (.int 1)) : Ls X ρ (.Subscript a (.Slice (some lo) none none p2) pos) ((xs.drop 1).map f) := by
  have h' := (Ev.cutL (pos := pos) (p2 := p2) h hl).ls
  rw [ers_sh, cutD_1] at h'
  exact h'
theorem cutN_take {α : Type} (xs : List α) (i : Nat) : cutN xs none (some (i : Int)) = xs.take i := by
  unfold cutN
  have e : HT.sIx xs.length xs.length (some (i : Int)) = min i xs.length := HT.sIx_nat _ _ i
  rw [HT.sIx_none, e, List.drop_zero, Nat.sub_zero]
  by_cases h : i ≤ xs.length
  · rw [Nat.min_eq_left h]
  · rw [Nat.min_eq_right (by omega), List.take_of_length_le (by omega), List.take_of_length_le (by omega)]
theorem cutN_mid {α : Type} (xs : List α) {i k : Nat} (h : i + k ≤ xs.length) : cutN xs (some (i : Int)) (some ((i + k : Nat) : Int)) = (xs.drop i).take k := by
  unfold cutN
  have e1 : HT.sIx xs.length 0 (some (i : Int)) = min i xs.length := HT.sIx_nat _ _ i
  have e2 : HT.sIx xs.length xs.length (some ((i + k : Nat) : Int)) = min (i + k) xs.length := HT.sIx_nat _ _ (i + k)
  rw [e1, e2, show min i xs.length = i from by omega, show min (i + k) xs.length = i + k from by omega, Nat.add_sub_cancel_left]
theorem cutN_drop {α : Type} (xs : List α) (i : Nat) : cutN xs (some (i : Int)) none = xs.drop i := by
  unfold cutN
  have e : HT.sIx xs.length 0 (some (i : Int)) = min i xs.length := HT.sIx_nat _ _ i
  rw [HT.sIx_none, e, List.take_of_length_le (by rw [List.length_drop]; exact Nat.le_refl _)]
  by_cases h : i ≤ xs.length
  · rw [Nat.min_eq_left h]
  · rw [Nat.min_eq_right (by omega), List.drop_of_length_le (by omega), List.drop_of_length_le (by omega)]
theorem enumD_map {α : Type} (f : α → D) (d : α) (xs : List α) : enumD (xs.map f) = (List.range xs.length).map fun (i : Nat) => .tup [.int i, f (xs.getD i d)] := by
  unfold enumD
  rw [List.length_map]
  refine List.ext_getElem? fun i => ?_
  by_cases h : i < xs.length
  · unfold zipD
    rw [List.getElem?_zipWith, List.getElem?_map, List.getElem?_map, List.getElem?_range h, List.getElem?_eq_getElem h]
    unfold rngD
    rw [List.getElem?_map, List.getElem?_range h]
    show some (D.tup [.int (0 + (i : Int)), f xs[i]]) = some (D.tup [.int i, f (xs.getD i d)])
    rw [Int.zero_add, List.getD_eq_getElem?_getD, List.getElem?_eq_getElem h]
    rfl
  · unfold zipD rngD
    rw [List.getElem?_eq_none (by rw [List.length_zipWith, List.length_map, List.length_map, List.length_range]; omega), List.getElem?_eq_none (by rw [List.length_map, List.length_range]; omega)]
theorem itEnum {α : Type} {f : α → D} (d : α) {xs : List α} {M : Md} {N : List Str} {sc : Scope} {fc : Str → Bool} {k : Nat} {X : Cx} {ρ : Rho} {a : Expr} {p pos : Pos} {elts : List Expr} {kk : Nat} {tpos : Pos} (hX : XF M N sc fc k X) (hm : M.mg "enumerate" = none) (ha : Ev X ρ a (.sh (.lst (xs.map f))))
    (hs : starEach (a :: []) X.env = (false, eval a X.env) :: starEach [] X.env := by rfl) (hg : glB sc "enumerate" = true := by decide +kernel) : ItF X ρ (.Tuple elts kk tpos) (.Call (.Name "enumerate" p) [a] [] pos) ((List.range xs.length).map fun (i : Nat) => .tup [.int i, f (xs.getD i d)]) := by
  have := ItF.enum (elts := elts) (kk := kk) (tpos := tpos) (p := p) (pos := pos) hX hm ha hs hg
  rw [enumD_map f d xs] at this
  exact this
theorem pn_le {p : Int} {n : Nat} (hp : Round p) (h3 : n ≤ 3) : p.toNat ^ n ≤ 343 := by
  have h7 := hp.le
  have h2 := hp.two
  calc p.toNat ^ n ≤ 7 ^ n := Nat.pow_le_pow_left (by omega) n
    _ ≤ 7 ^ 3 := Nat.pow_le_pow_right (by decide) h3
    _ = 343 := rfl
/-! ### restturns/answers.py: Undone, Lost; restturns/undoing.py -/
def undB (p : Int) (n : Nat) (t tb : List (List Int)) : Bool := tabB p n tb && decide (behindL p t tb = unitL n)
def nzB (r : List Int) : Bool := r.any fun x => !decide (x = 0)
def lostB (p : Int) (n : Nat) (t : List (List Int)) (row : List Int) : Bool := isRow p row n && nzB row && decide (movedL p row t = zeroR n)
abbrev dU (CU : Addr) (tb : List (List Int)) : D := .obj CU [("table", dT tb)]
abbrev dL (CL : Addr) (row : List Int) : D := .obj CL [("row", dR row)]
abbrev tU (CU : Addr) (tb : List (List Int)) : T := .obj CU [("table", tT tb)]
abbrev tL (CL : Addr) (row : List Int) : T := .obj CL [("row", tR row)]
theorem er_U (CU : Addr) (tb : List (List Int)) : (tU CU tb).er = dU CU tb := by
  show D.obj CU [("table", (tT tb).er)] = _
  rw [er_tT]
theorem er_L (CL : Addr) (row : List Int) : (tL CL row).er = dL CL row := by
  show D.obj CL [("row", (tR row).er)] = _
  rw [er_tR]
theorem nz_zero {p : Int} {n : Nat} {r : List Int} (h : RowOk p n r) : nzB r = !decide (r = zeroR n) := by
  unfold nzB
  by_cases e : r = zeroR n
  · rw [decide_eq_true e, e]
    unfold zeroR
    rw [Bool.not_true, List.any_eq_false]
    intro x hx
    rw [List.eq_of_mem_replicate hx]
    decide
  · rw [decide_eq_false e, Bool.not_false, List.any_eq_true]
    refine Decidable.byContradiction fun z => e ?_
    rw [← h.len]
    refine List.eq_replicate_of_mem fun x hx => Decidable.byContradiction fun w => z ⟨x, hx, ?_⟩
    rw [decide_eq_false w]
    rfl
/-- what judged tells -/
def judT (CU CL : Addr) (p : Int) (n : Nat) (t : List (List Int)) : T := if (judL p t).1 < n then tL CL (rowAt (judL p t).2 (n - 1)) else tU CU (judL p t).2
structure Tn (p : Int) (n : Nat) (t : List (List Int)) : Prop where
  rd : Round p
  n1 : 1 ≤ n
  n3 : n ≤ 3
  tab : Tab p n t
section
variable {M : Md} {CU CL : Addr}
def gMkT (C : Addr) (f : Str) (ds : List D) (t : T) : Prop := ∃ tb : List (List Int), ds = [dT tb] ∧ tb.length ≤ 1000 ∧ t = .obj C [(f, tT tb)]
def gMkR (C : Addr) (f : Str) (ds : List D) (t : T) : Prop := ∃ r : List Int, ds = [dR r] ∧ t = .obj C [(f, tR r)]
def gUShows (CU : Addr) (ds : List D) (t : T) : Prop := ∃ p n tb tab, ds = [dU CU tb, .int p, dT tab] ∧ Tn p n tab ∧ (tb.length ≤ 1000 ∧ ∀ r ∈ tb, r.length ≤ 1000) ∧ t = .sh (.bl (undB p n tab tb))
def gLShows (CL : Addr) (ds : List D) (t : T) : Prop := ∃ p n row tab, ds = [dL CL row, .int p, dT tab] ∧ Tn p n tab ∧ row.length ≤ 1000 ∧ t = .sh (.bl (lostB p n tab row))
def gJudged (CU CL : Addr) (ds : List D) (t : T) : Prop := ∃ p n tab, ds = [.int p, dT tab] ∧ Tn p n tab ∧ t = judT CU CL p n tab
theorem atI_last {α : Type} {f : α → D} {xs : List α} (d : α) (h : 0 < xs.length) : atI (xs.map f) (-1) = some (f (xs.getD (xs.length - 1) d)) := by
  unfold atI ixN
  rw [if_neg (by decide), if_pos (by rw [List.length_map]; omega), Option.bind_some]
  rw [List.getElem?_map, show ((-1 : Int) + ((xs.map f).length : Int)).toNat = xs.length - 1 from by rw [List.length_map]; omega, List.getElem?_eq_getElem (by omega), List.getD_eq_getElem?_getD, List.getElem?_eq_getElem (by omega)]
  rfl
def gRankD (ds : List D) (t : T) : Prop := ∃ p n tab, ds = [.int p, dT tab] ∧ Tn p n tab ∧ t = tI (rankL p n tab)
theorem Tn.cl {p : Int} {n : Nat} {t : List (List Int)} (W : Tn p n t) : ClOk p n t := ⟨W.rd, by have := W.n3; omega, by rw [W.tab.len]; have := W.n3; omega, W.tab.rows⟩
end
/-! ### worth -/
section
variable {M : Md} {CU CL : Addr}
theorem atI_ent {t : List (List Int)} {i j : Nat} (hi : i < t.length) (hj : j < (rowAt t i).length) : atI ((rowAt t i).map D.int) (j : Int) = some (.int (ent t i j)) := atI_getD hj
def gWorthOf (k : Nat) (ds : List D) (t : T) : Prop := ∃ p tab, ds = [.int p, dT tab] ∧ Round p ∧ Tab p (k + 1) tab ∧ t = tI (wP p k tab)
theorem wP_lt {p : Int} (hp : 0 < p) (k : Nat) (t : List (List Int)) : 0 ≤ wP p k t ∧ wP p k t < p := by
  cases k with
  | zero => exact ⟨Int.emod_nonneg _ (by omega), Int.emod_lt_of_pos _ hp⟩
  | succ k => exact ⟨Int.emod_nonneg _ (by omega), Int.emod_lt_of_pos _ hp⟩
theorem sgn_lt (i : Nat) : -1 ≤ sgnL i ∧ sgnL i ≤ 1 := by
  unfold sgnL
  split <;> omega
theorem sgn_mul {i : Nat} {r : Int} (h : 0 ≤ r ∧ r < 7) : -8 < sgnL i * r ∧ sgnL i * r < 8 := by
  unfold sgnL
  split <;> omega
theorem itRangeRow {n : Nat} {t : List (List Int)} {p : Int} (h : Tab p (n + 1) t) : (rowAt t 0).length = n + 1 := (h.row _ (rowAt_mem (by rw [h.len]; omega))).1
def gWorthD (ds : List D) (t : T) : Prop := ∃ p n tab, ds = [.int p, dT tab] ∧ Tn p n tab ∧ t = tI (wI (n - 1) tab % p)
end
/-! ### what judged tells, known -/
theorem tabB_tab {p : Int} {n : Nat} {t : List (List Int)} (h : Tab p n t) : tabB p n t = true := by
  unfold tabB
  simp only [Bool.and_eq_true, decide_eq_true_eq, List.all_eq_true]
  exact ⟨h.len, fun r hr => (h.mem hr).isRow⟩
theorem isRow_long {p : Int} {n : Nat} {r : List Int} (h : r.length = n) : isRow p (r ++ [0]) n = false := by
  unfold isRow
  rw [List.length_append, h, decide_eq_false (by show ¬ ((n + 1 : Nat) : Int) = n; omega)]
  rfl
theorem undB_long {p : Int} {n : Nat} {t : List (List Int)} {r : List Int} {rs : List (List Int)} (h : r.length = n) : undB p n t ((r ++ [0]) :: rs) = false := by
  unfold undB tabB
  rw [List.all_cons, isRow_long h]
  simp
theorem lostB_long {p : Int} {n : Nat} {t : List (List Int)} {r : List Int} (h : r.length = n) : lostB p n t (r ++ [0]) = false := by
  unfold lostB
  rw [isRow_long h]
  rfl
theorem jud_U {p : Int} {n : Nat} {t : List (List Int)} {CU CL : Addr} (R : Rnd p) (h1 : 1 ≤ n) (ht : Tab p n t) (h : ¬ (judL p t).1 < n) : rankL p n t = n ∧ ∃ r rs, judT CU CL p n t = tU CU (r :: rs) ∧ Tab p n (r :: rs) ∧ undB p n t (r :: rs) = true := by
  have J := jud_ok R h1 ht
  have e : (judL p t).1 = n := by have := J.le; omega
  refine ⟨(jud_rank R h1 ht).mp e, ?_⟩
  have f := J.full e
  have ht2 := J.tab
  unfold judT
  rw [if_neg h]
  generalize (judL p t).2 = U at f ht2
  cases U with
  | nil => exact absurd ht2.len (by show ¬ 0 = n; omega)
  | cons r rs =>
    refine ⟨r, rs, rfl, ht2, ?_⟩
    unfold undB
    rw [tabB_tab ht2, f.1, decide_eq_true rfl]
    rfl
theorem jud_L {p : Int} {n : Nat} {t : List (List Int)} {CU CL : Addr} (R : Rnd p) (h1 : 1 ≤ n) (ht : Tab p n t) (h : (judL p t).1 < n) : rankL p n t < n ∧ ∃ r, judT CU CL p n t = tL CL r ∧ RowOk p n r ∧ lostB p n t r = true := by
  have J := jud_ok R h1 ht
  have rk := jud_rank R h1 ht
  have rn := rank_n R ht
  have l := J.lost h
  have hr := J.tab.mem (rowAt_mem (rows := (judL p t).2) (i := n - 1) (by rw [J.tab.len]; omega))
  have lt : rankL p n t < n := by
    by_cases e : rankL p n t = n
    · have := rk.mpr e
      omega
    · omega
  refine ⟨lt, _, by unfold judT; rw [if_pos h], hr, ?_⟩
  unfold lostB
  rw [hr.isRow, nz_zero hr, decide_eq_false l.1, l.2, decide_eq_true rfl]
  rfl
/-! ### restturns/turns.py; answers.py: primes_in, Back -/
theorem idx_app_no {x : Tb} : ∀ {ys : List Tb}, inB x ys = false → ∀ z, idxL x (ys ++ [z]) = if z = x then ys.length else ys.length + 1
  | [], _, z => by
    show idxL x [z] = _
    unfold idxL
    rfl
  | y :: ys, h, z => by
    have h1 : y ≠ x := fun e => inB_no.mp h (by rw [e]; exact List.mem_cons_self ..)
    have h2 : inB x ys = false := inB_no.mpr fun q => inB_no.mp h (List.mem_cons_of_mem _ q)
    show (if y = x then 0 else idxL x (ys ++ [z]) + 1) = _
    rw [if_neg h1, idx_app_no h2 z]
    split <;> rfl
theorem idx_app_in {x : Tb} : ∀ {ys : List Tb}, inB x ys = true → ∀ zs, idxL x (ys ++ zs) = idxL x ys
  | [], h, _ => by cases inB_iff.mp h
  | y :: ys, h, zs => by
    show (if y = x then 0 else idxL x (ys ++ zs) + 1) = (if y = x then 0 else idxL x ys + 1)
    by_cases e : y = x
    · rw [if_pos e, if_pos e]
    · rw [if_neg e, if_neg e, idx_app_in (inB_iff.mpr ((List.mem_cons.mp (inB_iff.mp h)).resolve_left fun z => e z.symm))]
abbrev keyT (t : Tb) : Key := .inr (tabText t)
def metD (p : Int) (n : Nat) (t : Tb) (m : Nat) : List (Key × D) := (List.range m).map fun (i : Nat) => (keyT (pwL p n t i), .int i)
theorem metD_succ (p : Int) (n : Nat) (t : Tb) (m : Nat) : metD p n t (m + 1) = metD p n t m ++ [(keyT (pwL p n t m), .int m)] := by
  unfold metD
  rw [List.range_succ, List.map_append]
  rfl
theorem metD_len (p : Int) (n : Nat) (t : Tb) (m : Nat) : (metD p n t m).length = m := by
  unfold metD
  rw [List.length_map, List.length_range]
theorem Tab.rw7 {p : Int} {n : Nat} (hp : Round p) {t : Tb} (h : Tab p n t) : ∀ r ∈ t, r.length = n ∧ ∀ x ∈ r, 0 ≤ x ∧ x < 7 := fun r hr => ⟨(h.row r hr).1, fun x hx => by
  have := (h.row r hr).2 x hx
  have := hp.le
  omega⟩
theorem key_inj {p : Int} {n : Nat} (hp : Round p) {s t : Tb} (hs : Tab p n s) (ht : Tab p n t) : keyT s = keyT t ↔ s = t :=
  ⟨fun e => tabText_inj hs.len ht.len (hs.rw7 hp) (ht.rw7 hp) (Sum.inr.inj e), fun e => by rw [e]⟩
theorem met_val {p : Int} {n : Nat} (hp : Round p) {t : Tb} (ht : Tab p n t) : ∀ (m : Nat), Unl p n t m → ∀ x, Tab p n x → valD (metD p n t m) (keyT x) = if inB x (turnsL p n t m) = true then some (.int (idxL x (turnsL p n t m))) else none
  | 0, _, x, _ => by
    rw [if_neg (by rw [show inB x (turnsL p n t 0) = false from inB_no.mpr fun z => nomatch z]; exact Bool.false_ne_true)]
    rfl
  | m + 1, u, x, hx => by
    have u' : Unl p n t m := fun i j a b => u i j a (by omega)
    have hm := pw_ok hp.two ht m
    have no : inB (pwL p n t m) (turnsL p n t m) = false := inB_no.mpr fun z => by
      obtain ⟨i, hi, e⟩ := List.mem_map.mp z
      exact u i m (List.mem_range.mp hi) (Nat.lt_succ_self m) e
    have h0 := met_val hp ht m u' (pwL p n t m) hm
    rw [no, if_neg Bool.false_ne_true] at h0
    rw [metD_succ, valD_snoc _ _ _ _ h0, turns_succ]
    by_cases e : x = pwL p n t m
    · rw [if_pos ((key_inj hp hx hm).mpr e), if_pos (inB_iff.mpr (by rw [e]; exact List.mem_append_right _ (List.mem_cons_self ..)))]
      rw [e, idx_app_no no, if_pos rfl, turns_len]
    · rw [if_neg fun z => e ((key_inj hp hx hm).mp z), met_val hp ht m u' x hx]
      by_cases q : inB x (turnsL p n t m) = true
      · rw [if_pos q, if_pos (inB_iff.mpr (List.mem_append_left _ (inB_iff.mp q))), idx_app_in q]
      · rw [if_neg q, if_neg fun z => q (inB_iff.mpr ((List.mem_append.mp (inB_iff.mp z)).resolve_right fun z => e (List.mem_singleton.mp z)))]
theorem per_found {p : Int} {n : Nat} {t : Tb} {m : Nat} (R : Rnd p) (ht : Tab p n t) (h1 : 1 ≤ n) (h3 : n ≤ 3) (u : Unl p n t m) (q : inB (pwL p n t m) (turnsL p n t m) = true) : m = perL p n t ∧ idxL (pwL p n t m) (turnsL p n t m) = firL p n t := by
  obtain ⟨i1, i2, _⟩ := idxL_ok (inB_iff.mp q)
  rw [turns_len] at i1
  rw [turns_get, if_pos i1] at i2
  exact PerOk.uniq ⟨u, i1, (Option.some.inj i2).symm, pw_few R ht h1 h3 u⟩ (per_ok R ht h1 h3)
theorem primesL'_le {m q : Nat} (h : q ∈ primesL' m) : 2 ≤ q ∧ q ≤ m := by
  unfold primesL' at h
  obtain ⟨h1, _⟩ := List.mem_filter.mp h
  obtain ⟨i, hi, rfl⟩ := List.mem_map.mp h1
  have := List.mem_range.mp hi
  omega
theorem primesL'_len (m : Nat) : (primesL' m).length ≤ m := by
  unfold primesL'
  refine Nat.le_trans (List.length_filter_le _ _) ?_
  rw [List.length_map, List.length_range]
  omega
theorem below_len (m q : Nat) : (belowL m q).length ≤ q := by
  unfold belowL
  refine Nat.le_trans (List.length_filter_le _ _) ?_
  rw [List.length_map, List.length_range]
  omega
abbrev tN (ns : List Nat) : T := .lst (ns.map fun q => tI (q : Nat))
abbrev dNs' (ns : List Nat) : D := .lst (ns.map fun (q : Nat) => D.int q)
theorem er_tN (ns : List Nat) : (tN ns).er = dNs' ns := congrArg D.lst (ers_mapG _ (fun (q : Nat) => D.int q) (fun _ => rfl) ns)
section
variable {M : Md} {CU CL CB : Addr}
def gRoundOf (ds : List D) (t : T) : Prop := ∃ p n tab, ds = [.int p, dT tab] ∧ Tn p n tab ∧ t = .sh (.tup [.int (firL p n tab), .int ((perL p n tab : Int) - firL p n tab)])
theorem ok_round_of (B : BI M.mg) (hstr : M.mg "str" = none) (F : FnE M "round_of" s_round_of P_round_of) (H1 : DefOk M 1 "unit_of" gUnit) (H2 : DefOk M 2 "behind_of" gBehindOf) : DefOk M 3 "round_of" gRoundOf := by
  refine def_okE F c_round_of (fun ds t ⟨p, n, tab, h, _⟩ => by rw [h]; rfl) fun X ds t hX ⟨p, n, tab, h, W, ht⟩ => ?_
  subst h ht
  have n1 := W.n1
  have n3 := W.n3
  have R : Rnd p := ⟨W.rd⟩
  have h343 := pn_le W.rd n3
  refine Ss.cons (Sm.par3 hX 2 3 4 (.cons Ev.dic0 (.cons (Ev.call hX H1 (.cons (e_len hX B.len (nmS hX 1)) .nil) ⟨n, by rw [List.length_map, W.tab.len]; rfl, by omega, rfl⟩) (.cons Ev.int .nil))) ?_)
  refine Ss.consP (fun ρ => ∃ th : T, th.er = dT (pwL p n tab (perL p n tab)) ∧ ρ = [some (.sh (.int p)), some (.sh (dT tab)), some (.dic (metD p n tab (perL p n tab))), some th, some (tI (perL p n tab)), none])
    (Sm.while hX (fun l ρ => ∃ m, l = 344 - m ∧ Unl p n tab m ∧ ∃ th : T, th.er = dT (pwL p n tab m) ∧ ρ = [some (.sh (.int p)), some (.sh (dT tab)), some (.dic (metD p n tab m)), some th, some (tI m), none])
      ⟨344, 0, rfl, fun i j _ h => absurd h (Nat.not_lt_zero j), tT (unitL n), er_tT _, rfl⟩ fun l ρ ⟨m, hl, u, th, her, hρ⟩ => ?_) fun ρ ⟨th, her, hρ⟩ => ?_
  · subst hρ hl
    have hm := pw_ok W.rd.two W.tab m
    have few := pw_few R W.tab n1 n3 u
    have hv := met_val W.rd W.tab m u _ hm
    refine ⟨(valD (metD p n tab m) (keyT (pwL p n tab m))).isNone, Te.dnin hX 2 (e_strT hX hstr n3 hm.len (hm.rw7 W.rd) (nmO hX 3 rfl her)).rd, fun hc => ?_, fun hc => ?_⟩
    · have no : inB (pwL p n tab m) (turnsL p n tab m) = false := by
        cases q : inB (pwL p n tab m) (turnsL p n tab m) with
        | false => rfl
        | true =>
          rw [q, if_pos rfl] at hv
          rw [hv] at hc
          cases hc
      rw [no, if_neg Bool.false_ne_true] at hv
      have u' := u.succ no
      have few' := pw_few R W.tab n1 n3 u'
      refine Ss.cons (Sm.dput hX 2 (nm hX 4) (e_strT hX hstr n3 hm.len (hm.rw7 W.rd) (nmO hX 3 rfl her)).rd hv (by rw [metD_len]; omega) ?_)
      refine Ss.cons (Sm.par hX 3 4 (.cons (Ev.callR hX H2 (.cons (nmS hX 0) (.cons (nmO hX 3 rfl her) (.cons (nmS hX 1) .nil))) ⟨p, _, tab, rfl, Tab.bh W.rd n3 hm W.tab, rfl⟩ (own_tT _)) (.cons (Ev.add (nmS hX 4) Ev.int.rd) .nil)) (Ss.nil ⟨344 - (m + 1), by omega, m + 1, rfl, u', tT (pwL p n tab (m + 1)), er_tT _, ?_⟩))
      rw [metD_succ]
      rfl
    · have yes : inB (pwL p n tab m) (turnsL p n tab m) = true := by
        cases q : inB (pwL p n tab m) (turnsL p n tab m) with
        | true => rfl
        | false =>
          rw [q, if_neg Bool.false_ne_true] at hv
          rw [hv] at hc
          cases hc
      obtain ⟨e1, _⟩ := per_found R W.tab n1 n3 u yes
      subst e1
      exact ⟨th, her, rfl⟩
  · subst hρ
    have P := per_ok R W.tab n1 n3
    have hm := pw_ok W.rd.two W.tab (perL p n tab)
    have yes : inB (pwL p n tab (perL p n tab)) (turnsL p n tab (perL p n tab)) = true := inB_iff.mpr (by
      rw [P.eq]
      exact List.mem_map.mpr ⟨_, List.mem_range.mpr P.lt, rfl⟩)
    have hv := met_val W.rd W.tab _ P.unl _ hm
    rw [yes, if_pos rfl, (per_found R W.tab n1 n3 P.unl yes).2] at hv
    refine Ss.cons (Sm.set hX 5 (Ev.dget hX 2 (e_strT hX hstr n3 hm.len (hm.rw7 W.rd) (nmO hX 3 rfl her)).rd hv) ?_)
    exact Ss.cons (Sm.ret (Ev.tup (.cons (nm hX 5) (.cons (Ev.sub (nmS hX 4) (nmS hX 5)) .nil))) rfl)
def gComes (ds : List D) (t : T) : Prop := gRoundOf ds t
def gPrimes (ds : List D) (t : T) : Prop := ∃ m : Nat, ds = [.int m] ∧ 1 ≤ m ∧ m ≤ 10000 ∧ t = tN (primesL' m)
/-- an answer Back -/
abbrev dB (CB : Addr) (m : Int) (ts : List Tb) : D := .obj CB [("many", .int m), ("tables", dTs ts)]
abbrev tB (CB : Addr) (m : Int) (ts : List Tb) : T := .obj CB [("many", tI m), ("tables", tTs ts)]
theorem er_B (CB : Addr) (m : Int) (ts : List Tb) : (tB CB m ts).er = dB CB m ts := by
  show D.obj CB [("many", _), ("tables", (tTs ts).er)] = _
  rw [er_tTs]
  rfl
def dueB (p : Int) (tab : Tb) (m : Nat) : List Tb := (primesL' m).map fun q => turnedL p tab (m / q)
def backB (p : Int) (n : Nat) (tab : Tb) (m : Int) (ts : List Tb) : Bool :=
  (decide (1 ≤ m) && decide (m ≤ p ^ 4)) && (decide (turnedL p tab m.toNat = unitL n) && (decide (ts = dueB p tab m.toNat) && !inB (unitL n) (dueB p tab m.toNat)))
def gMkB (CB : Addr) (ds : List D) (t : T) : Prop := ∃ (m : Int) (ts : List Tb), ds = [.int m, dTs ts] ∧ (ts.length ≤ 1000 ∧ ∀ t ∈ ts, t.length ≤ 1000) ∧ t = tB CB m ts
def gBShows (CB : Addr) (ds : List D) (t : T) : Prop := ∃ p n m ts tab, ds = [dB CB m ts, .int p, dT tab] ∧ Tn p n tab ∧ t = .sh (.bl (backB p n tab m ts))
theorem p4 {p : Int} (h : Round p) : p ^ 4 ≤ 2401 := by rcases h with h | h | h | h <;> subst h <;> decide
def backT (CL CB : Addr) (CU : Addr) (p : Int) (n : Nat) (tab : Tb) : T := if rankL p n tab < n then judT CU CL p n tab else tB CB (perL p n tab) (dueB p tab (perL p n tab))
def gBackD (CL CB CU : Addr) (ds : List D) (t : T) : Prop := ∃ p n tab, ds = [.int p, dT tab] ∧ Tn p n tab ∧ t = backT CL CB CU p n tab
end
/-! ### answers.py: at_rule_of, nothing, is_rule, walk_of, Spans, Shorter; rules.py -/
abbrev dSp (C : Addr) (row : List Int) : D := .obj C [("row", dR row)]
abbrev tSp (C : Addr) (row : List Int) : T := .obj C [("row", tR row)]
abbrev dSh (C : Addr) (r : List Int) : D := .obj C [("rule", dR r)]
abbrev tSh (C : Addr) (r : List Int) : T := .obj C [("rule", tR r)]
theorem er_Sp (C : Addr) (row : List Int) : (tSp C row).er = dSp C row := by
  show D.obj C [("row", (tR row).er)] = _
  rw [er_tR]
theorem er_Sh (C : Addr) (row : List Int) : (tSh C row).er = dSh C row := by
  show D.obj C [("rule", (tR row).er)] = _
  rw [er_tR]
theorem take_snoc' {xs : List Int} {j : Nat} {x : Int} (h : xs[j]? = some x) : xs.take (j + 1) = xs.take j ++ [x] ∧ (xs.take j).length = j := by
  obtain ⟨hj, e⟩ := List.getElem?_eq_some_iff.mp h
  refine ⟨by rw [List.take_add_one, h]; rfl, by rw [List.length_take]; omega⟩
theorem atI_lastR {r : List Int} (h : 0 < r.length) : atI (r.map D.int) (-1) = some (.int (r.getD (r.length - 1) 0)) := atI_last (f := D.int) 0 h
/-- whether a row spans all -/
def spansB (p : Int) (n : Nat) (t : List (List Int)) (r : List Int) : Bool := isRow p r n && spanB p n t r
def shortB (p : Int) (n : Nat) (t : List (List Int)) (r : List Int) : Bool := isRule p r && decide (r.length ≤ n) && (nilB (ruleT p n t r) && decide (rankL p (n * n) (powsL p n t (r.length - 1)) = r.length - 1))
section
variable {M : Md} {CS CH : Addr}
def gAtOf (ds : List D) (t : T) : Prop := ∃ p n tab r, ds = [.int p, dT tab, dR r] ∧ Tn p n tab ∧ (∀ x ∈ r, 0 ≤ x ∧ x < p) ∧ t = tT (ruleT p n tab r)
def gNothing (ds : List D) (t : T) : Prop := ∃ tab : List (List Int), ds = [dT tab] ∧ tab.length ≤ 1000 ∧ t = .sh (.bl (nilB tab))
def gIsRule (ds : List D) (t : T) : Prop := ∃ p r, ds = [.int p, dR r] ∧ r.length ≤ 1000 ∧ t = .sh (.bl (isRule p r))
def gWalkOf (ds : List D) (t : T) : Prop := ∃ p n tab row, ds = [.int p, dT tab, dR row] ∧ Tn p n tab ∧ RowOk p n row ∧ t = .sh (dT (walkL p n tab row))
theorem walk_cl {p : Int} {n : Nat} {tab : List (List Int)} (W : Tn p n tab) {row : List Int} (hr : RowOk p n row) : ClOk p n (walkL p n tab row) := by
  have := walk_ok W.rd.pos W.tab hr
  have n3 := W.n3
  exact ⟨W.rd, by omega, by rw [this.len]; omega, this.rows⟩
def gSpShows (CS : Addr) (ds : List D) (t : T) : Prop := ∃ p n row tab, ds = [dSp CS row, .int p, dT tab] ∧ Tn p n tab ∧ row.length ≤ 1000 ∧ t = .sh (.bl (spansB p n tab row))
theorem pows_cl {p : Int} {n : Nat} {tab : List (List Int)} (W : Tn p n tab) {m : Nat} (hm : m ≤ 10) : ClOk p (n * n) (powsL p n tab m) := by
  have n3 := W.n3
  refine ⟨W.rd, ?_, by rw [pows_len]; omega, pows_ok ⟨W.rd⟩ W.tab m⟩
  have := Nat.mul_le_mul n3 n3
  omega
theorem flat_small {p : Int} {n : Nat} {tab : List (List Int)} (W : Tn p n tab) (k : Nat) : (pwL p n tab k).flatten.length ≤ 1000 := by
  have := (flat_ok (pw_ok W.rd.two W.tab k)).len
  have n3 := W.n3
  have := Nat.mul_le_mul n3 n3
  omega
def gShShows (CH : Addr) (ds : List D) (t : T) : Prop := ∃ p n r tab, ds = [dSh CH r, .int p, dT tab] ∧ Tn p n tab ∧ r.length ≤ 1000 ∧ t = .sh (.bl (shortB p n tab r))
end
/-! ### rules.py: least, own, spanning -/
def spanT (CS CH : Addr) (p : Int) (n : Nat) (tab : List (List Int)) : T := if (leastL p n tab).length ≤ n then tSh CH (leastL p n tab) else tSp CS (cycL p n tab)
theorem getD_map {α β : Type} (f : α → β) (d : α) (e : β) {xs : List α} {i : Nat} (h : i < xs.length) : (xs.map f).getD i e = f (xs.getD i d) := by
  rw [List.getD_eq_getElem?_getD, List.getElem?_map, List.getD_eq_getElem?_getD, List.getElem?_eq_getElem h]
  rfl
theorem set_range {α : Type} (f : Nat → α) (v : α) {n l : Nat} : ((List.range n).map f).set l v = (List.range n).map fun i => if i = l then v else f i := by
  refine List.ext_getElem (by rw [List.length_set, List.length_map, List.length_map]) fun i h1 h2 => ?_
  rw [List.getElem_set, List.getElem_map, List.getElem_map]
  simp only [List.getElem_range]
  by_cases e : l = i
  · rw [if_pos e, if_pos e.symm]
  · rw [if_neg e, if_neg fun z => e z.symm]
theorem sz2 {n : Nat} (h : n ≤ 100000) : n ≤ sizeLine := Nat.le_trans h (by decide)
section
variable {M : Md} {CS CH : Addr}
def gMadeOf (ds : List D) (t : T) : Prop := ∃ p n d tab, ds = [.int p, dT (powsL p n tab (d + 1))] ∧ Tn p n tab ∧ d ≤ n ∧ t = tR (madeR p (powsL p n tab (d + 1)))
def gLeast (ds : List D) (t : T) : Prop := ∃ p n tab, ds = [.int p, dT tab] ∧ Tn p n tab ∧ t = tR (leastL p n tab)
def gOwn (ds : List D) (t : T) : Prop := ∃ p n tab, ds = [.int p, dT tab] ∧ Tn p n tab ∧ t = tR (ownL p n tab)
def gAllRows (ds : List D) (t : T) : Prop := ∃ p, ∃ m : Nat, ds = [.int p, .int m] ∧ Round p ∧ m ≤ 1000 ∧ (∀ j, j ≤ m → p.toNat ^ j ≤ 20000) ∧ t = .sh (dT (rowsP p m))
theorem rowsP_row {p : Int} {m : Nat} {r : List Int} (h : r ∈ rowsP p m) : r.length = m := (rowsP_mem.mp h).len
theorem ok_all_rows (B : BI M.mg) (F : FnE M "all_rows" s_all_rows P_all_rows) : DefOk M 1 "all_rows" gAllRows := by
  refine def_okE F c_all_rows (fun ds t ⟨p, m, h, _⟩ => by rw [h]; rfl) fun X ds t hX ⟨p, m, h, hp, hm, hz, ht⟩ => ?_
  subst h ht
  have hp0 := hp.pos
  have h7 := hp.le
  have ep : ((p.toNat : Nat) : Int) = p := Int.toNat_of_nonneg (by omega)
  refine Ss.cons (Sm.set hX 2 (Ev.list (.cons (Ev.list .nil) .nil)) (Ss.frz 2 (d := dT (rowsP p 0)) ?_ rfl rfl))
  refine Ss.consP (fun ρ => ρ = [some (.sh (.int p)), some (tI m), some (.sh (dT (rowsP p m))), none, none, none, none])
    (Sm.forN (xs := List.range m) (en := fun (i : Nat) => D.int (i : Int)) (fun j ρ => ρ = [some (.sh (.int p)), some (tI m), some (.sh (dT (rowsP p j))), none, none, none, none]) hX 3
      (itRange hX B.range (nmS hX 1) (by omega)) rfl (fun j ρ h => by rw [h]; rfl) (fun j i ρ hj hI => ?_) fun ρ h => by rw [List.length_range] at h; exact h) fun ρ hρ => ?_
  · subst hI
    obtain ⟨hj', rfl⟩ := rng_at hj
    have l1 := rowsP_len (p := p) i
    have l2 := rowsP_len (p := p) (i + 1)
    have z1 := hz i (by omega)
    have z2 := hz (i + 1) (by omega)
    let f : List Int → List (List Int) := fun r => (List.range p.toNat).map fun (x : Nat) => r ++ [(x : Int)]
    have fl : ∀ l, (((rowsP p i).take l).map f).flatten.length ≤ p.toNat ^ (i + 1) := fun l => by
      rw [flat_blocks f p.toNat (fun r => by show ((List.range p.toNat).map _).length = _; rw [List.length_map, List.length_range]), List.length_take, Nat.pow_succ, l1]
      exact Nat.mul_le_mul_right _ (Nat.min_le_right _ _)
    refine Ss.cons (Sm.set hX 4 (Ev.list .nil) ?_)
    refine Ss.consP (fun ρ => ρ = [some (.sh (.int p)), some (tI m), some (.sh (dT (rowsP p i))), some (.sh (.int (i : Nat))), some (tS (rowsP p (i + 1))), none, none])
      (Sm.forN (xs := rowsP p i) (en := dR) (fun l ρ => ρ = [some (.sh (.int p)), some (tI m), some (.sh (dT (rowsP p i))), some (.sh (.int (i : Nat))), some (tS (((rowsP p i).take l).map f).flatten), none, none]) hX 5
        (ItF.list (nm hX 2)) rfl (fun j ρ h => by rw [h]; rfl) (fun l r ρ hl hI => ?_) fun ρ h => by rw [List.take_length] at h; exact h) fun ρ hρ => ?_
    · subst hI
      obtain ⟨hl', _⟩ := List.getElem?_eq_some_iff.mp hl
      have hr := rowsP_row (List.mem_of_getElem? hl)
      have st : (((rowsP p i).take (l + 1)).map f).flatten = (((rowsP p i).take l).map f).flatten ++ f r := by
        rw [List.take_add_one, hl, List.map_append, List.flatten_append]
        show _ ++ (f r ++ []) = _
        rw [List.append_nil]
      have fz := fl (l + 1)
      rw [st, List.length_append] at fz
      refine Ss.cons (Sm.ext (ts := ((((rowsP p i).take l).map f).flatten).map fun r => T.sh (dR r)) (ds := (f r).map dR) (nmN hX 4) (Ev.lsQ (lcN (xs := List.range p.toNat) (en := fun (x : Nat) => D.int (x : Int)) (g := fun x => .sh (dR (r ++ [(x : Int)]))) hX 6 (itRange hX B.range ((nmS hX 0).cast (congrArg D.int ep.symm)) (by omega)).c (fun X' b hX' x hx => e_cat (f := D.int) (xs := r) (ys := [(x : Int)]) (Ev.lsS (nm hX' 5)) (Ev.ls (Ev.list (.cons (nm hX' 6) .nil))) (by rw [hr]; show i + 1 ≤ 10000; omega)) (sz (by rw [List.length_range]; omega))) ?_) (Ss.drop 5 (Ss.nil ?_)) (by rw [List.length_map, List.length_map]; exact sz2 (by omega)))
      · rw [ers_mapG _ (fun x : Nat => dR (r ++ [(x : Int)])) fun _ => rfl]
        show _ = List.map dR (List.map _ _)
        rw [List.map_map]
        rfl
      · rw [st]
        show [_, _, _, _, some (T.lst (_ ++ _)), _, _] = [_, _, _, _, some (T.lst (List.map _ (_ ++ _))), _, _]
        rw [List.map_append, List.map_map]
        rfl
    · subst hρ
      refine Ss.frz 4 (d := dT (rowsP p (i + 1))) ?_ rfl (er_tS _)
      exact Ss.cons (Sm.set hX 2 (nm hX 4) (Ss.drop 3 (Ss.drop 4 (Ss.nil rfl))))
  · subst hρ
    exact Ss.cons (Sm.ret (nm hX 2) rfl)
def gSpanning (CS CH : Addr) (ds : List D) (t : T) : Prop := ∃ p n tab, ds = [.int p, dT tab] ∧ Tn p n tab ∧ t = spanT CS CH p n tab
theorem pn_le' {p : Int} {n : Nat} (hp : Round p) (h3 : n ≤ 3) : ∀ j, j ≤ n → p.toNat ^ j ≤ 20000 := fun j hj => by
  have h7 := hp.le
  have h2 := hp.two
  calc p.toNat ^ j ≤ 7 ^ j := Nat.pow_le_pow_left (by omega) j
    _ ≤ 7 ^ 3 := Nat.pow_le_pow_right (by decide) (by omega)
    _ ≤ 20000 := by decide
def gAtRule (ds : List D) (t : T) : Prop := ∃ p n tab r, ds = [.int p, dT tab, dR r] ∧ Tn p n tab ∧ isRule p r = true ∧ r.length ≤ 1000 ∧ t = tT (ruleT p n tab r)
end
/-! ### helps for the laws' own ends -/
theorem pw_unit {p : Int} (hp : 2 ≤ p) (n : Nat) : ∀ m, pwL p n (unitL n) m = unitL n
  | 0 => rfl
  | m + 1 => by
    show behindL p (pwL p n (unitL n) m) (unitL n) = _
    rw [pw_unit hp n m, unit_behind hp (unitL_ok hp n)]
theorem tab_mk {p : Int} {n : Nat} {t : List (List Int)} (h : (decide (t.length = n) && t.all fun r => decide (r.length = n) && r.all fun x => decide (0 ≤ x) && decide (x < p)) = true) : Tab p n t := by
  simp only [Bool.and_eq_true, decide_eq_true_eq, List.all_eq_true] at h
  exact ⟨h.1, fun r hr => h.2 r hr⟩
section
variable {M : Md} {X : Cx} {ρ : Rho}
theorem e_tabI {es : List Expr} {pos : Pos} {t : List (List Int)} (h : EvA X ρ es (t.map tR)) (hz : t.length ≤ 1000 := by decide) : Ev X ρ (.List es pos) (.sh (dT t)) :=
  (Ev.list h (by rw [List.length_map]; exact Nat.le_of_lt (small1000 hz))).fz' (er_tT t)
theorem e_rowI {es : List Expr} {pos : Pos} {r : List Int} (h : constInts es = some r := by rfl) (hz : r.length ≤ 1000 := by decide) : Ev X ρ (.List es pos) (.sh (dR r)) := (Ev.listI h hz).fz' (er_tR r)
theorem e_lenR {N : List Str} {sc : Scope} {fc : Str → Bool} {k : Nat} {e : Expr} {p pos : Pos} {xs : List Int} (hX : XF M N sc fc k X) (hm : M.mg "len" = none) (h : Rd X ρ e (dR xs)) (hs : starEach (e :: []) X.env = (false, eval e X.env) :: starEach [] X.env := by rfl) (hg : glB sc "len" = true := by decide +kernel) : Rd X ρ (.Call (.Name "len" p) [e] [] pos) (.int xs.length) :=
  ((e_len hX hm h hs hg).cast (t' := tI xs.length) (by rw [List.length_map])).rd
end
/-! ### k03: the law's own steps -/
/-- so far down the slant -/
def diagTo (p : Int) (n : Nat) (t : List (List Int)) (x : Int) (l : Nat) : List (List Int) := (List.range n).map fun i => (List.range n).map fun j => if i = j ∧ i < l then (ent t i j + x) % p else ent t i j
section
variable {p : Int} {n : Nat} {t : List (List Int)}
theorem diagTo_0 (ht : Tab p n t) (x : Int) : diagTo p n t x 0 = t := by
  refine tab_rows_ext (n := n) (by unfold diagTo; rw [List.length_map, List.length_range]) ht.len fun i hi => ?_
  have hr := ht.row _ (rowAt_mem (rows := t) (i := i) (by rw [ht.len]; exact hi))
  unfold diagTo
  show ((List.range n).map _).getD i [] = _
  rw [getD_range _ _ hi]
  refine List.ext_getElem (by rw [List.length_map, List.length_range, hr.1]) fun j h1 h2 => ?_
  rw [List.getElem_map, List.getElem_range, if_neg (by omega)]
  show (rowAt t i).getD j 0 = _
  rw [List.getD_eq_getElem?_getD, List.getElem?_eq_getElem h2]
  rfl
theorem diagTo_n (x : Int) : diagTo p n t x n = diagL p n t x := by
  unfold diagTo diagL
  refine List.map_congr_left fun i hi => List.map_congr_left fun j _ => ?_
  have := List.mem_range.mp hi
  by_cases e : i = j
  · rw [if_pos ⟨e, this⟩, if_pos e]
  · rw [if_neg fun z => e z.1, if_neg e]
theorem diagTo_at {x : Int} {l i : Nat} (hi : i < n) : rowAt (diagTo p n t x l) i = (List.range n).map fun j => if i = j ∧ i < l then (ent t i j + x) % p else ent t i j := by
  unfold diagTo rowAt
  rw [getD_range _ _ hi]
theorem diagTo_len (x : Int) (l : Nat) : (diagTo p n t x l).length = n := by
  unfold diagTo
  rw [List.length_map, List.length_range]
theorem diagTo_ent {x : Int} {l : Nat} (hl : l < n) : (rowAt (diagTo p n t x l) l).length = n ∧ (rowAt (diagTo p n t x l) l).getD l 0 = ent t l l := by
  rw [diagTo_at hl]
  refine ⟨by rw [List.length_map, List.length_range], ?_⟩
  rw [getD_range _ _ hl, if_neg fun z => Nat.lt_irrefl _ z.2]
theorem diagTo_next {x : Int} {l : Nat} (hl : l < n) : (diagTo p n t x l).set l ((rowAt (diagTo p n t x l) l).set l ((ent t l l + x) % p)) = diagTo p n t x (l + 1) := by
  rw [diagTo_at hl, set_range]
  unfold diagTo
  rw [set_range]
  refine List.map_congr_left fun i hi => ?_
  by_cases e : i = l
  · subst e
    rw [if_pos rfl]
    refine List.map_congr_left fun j _ => ?_
    by_cases e2 : j = i
    · subst e2
      rw [if_pos rfl, if_pos ⟨rfl, Nat.lt_succ_self _⟩]
    · rw [if_neg e2, if_neg fun z => e2 z.1.symm, if_neg fun z => e2 z.1.symm]
  · rw [if_neg e]
    refine List.map_congr_left fun j _ => ?_
    by_cases e2 : i = j ∧ i < l
    · rw [if_pos e2, if_pos ⟨e2.1, by omega⟩]
    · rw [if_neg e2, if_neg fun z => e2 ⟨z.1, by omega⟩]
end
section
variable {M : Md} {CS CH : Addr}
theorem ok_lrows (B : BI M.mg) (F : FnE M "_law_rows" s__law_rows P__law_rows) : DefOk M 1 "_law_rows" gAllRows := by
  refine def_okE F c__law_rows (fun ds t ⟨p, m, h, _⟩ => by rw [h]; rfl) fun X ds t hX ⟨p, m, h, hp, hm, hz, ht⟩ => ?_
  subst h ht
  have hp0 := hp.pos
  have h7 := hp.le
  have ep : ((p.toNat : Nat) : Int) = p := Int.toNat_of_nonneg (by omega)
  refine Ss.cons (Sm.set hX 2 (Ev.list (.cons (Ev.list .nil) .nil)) (Ss.frz 2 (d := dT (rowsP p 0)) ?_ rfl rfl))
  refine Ss.consP (fun ρ => ρ = [some (.sh (.int p)), some (tI m), some (.sh (dT (rowsP p m))), none, none, none, none])
    (Sm.forN (xs := List.range m) (en := fun (i : Nat) => D.int (i : Int)) (fun j ρ => ρ = [some (.sh (.int p)), some (tI m), some (.sh (dT (rowsP p j))), none, none, none, none]) hX 3
      (itRange hX B.range (nmS hX 1) (by omega)) rfl (fun j ρ h => by rw [h]; rfl) (fun j i ρ hj hI => ?_) fun ρ h => by rw [List.length_range] at h; exact h) fun ρ hρ => ?_
  · subst hI
    obtain ⟨hj', rfl⟩ := rng_at hj
    have l1 := rowsP_len (p := p) i
    have l2 := rowsP_len (p := p) (i + 1)
    have z1 := hz i (by omega)
    have z2 := hz (i + 1) (by omega)
    let f : List Int → List (List Int) := fun r => (List.range p.toNat).map fun (x : Nat) => r ++ [(x : Int)]
    have fl : ∀ l, (((rowsP p i).take l).map f).flatten.length ≤ p.toNat ^ (i + 1) := fun l => by
      rw [flat_blocks f p.toNat (fun r => by show ((List.range p.toNat).map _).length = _; rw [List.length_map, List.length_range]), List.length_take, Nat.pow_succ, l1]
      exact Nat.mul_le_mul_right _ (Nat.min_le_right _ _)
    refine Ss.cons (Sm.set hX 4 (Ev.list .nil) ?_)
    refine Ss.consP (fun ρ => ρ = [some (.sh (.int p)), some (tI m), some (.sh (dT (rowsP p i))), some (.sh (.int (i : Nat))), some (tS (rowsP p (i + 1))), none, none])
      (Sm.forN (xs := rowsP p i) (en := dR) (fun l ρ => ρ = [some (.sh (.int p)), some (tI m), some (.sh (dT (rowsP p i))), some (.sh (.int (i : Nat))), some (tS (((rowsP p i).take l).map f).flatten), none, none]) hX 5
        (ItF.list (nm hX 2)) rfl (fun j ρ h => by rw [h]; rfl) (fun l r ρ hl hI => ?_) fun ρ h => by rw [List.take_length] at h; exact h) fun ρ hρ => ?_
    · subst hI
      obtain ⟨hl', _⟩ := List.getElem?_eq_some_iff.mp hl
      have hr := rowsP_row (List.mem_of_getElem? hl)
      have st : (((rowsP p i).take (l + 1)).map f).flatten = (((rowsP p i).take l).map f).flatten ++ f r := by
        rw [List.take_add_one, hl, List.map_append, List.flatten_append]
        show _ ++ (f r ++ []) = _
        rw [List.append_nil]
      have fz := fl (l + 1)
      rw [st, List.length_append] at fz
      refine Ss.cons (Sm.ext (ts := ((((rowsP p i).take l).map f).flatten).map fun r => T.sh (dR r)) (ds := (f r).map dR) (nmN hX 4) (Ev.lsQ (lcN (xs := List.range p.toNat) (en := fun (x : Nat) => D.int (x : Int)) (g := fun x => .sh (dR (r ++ [(x : Int)]))) hX 6 (itRange hX B.range ((nmS hX 0).cast (congrArg D.int ep.symm)) (by omega)).c (fun X' b hX' x hx => e_cat (f := D.int) (xs := r) (ys := [(x : Int)]) (Ev.lsS (nm hX' 5)) (Ev.ls (Ev.list (.cons (nm hX' 6) .nil))) (by rw [hr]; show i + 1 ≤ 10000; omega)) (sz (by rw [List.length_range]; omega))) ?_) (Ss.drop 5 (Ss.nil ?_)) (by rw [List.length_map, List.length_map]; exact sz2 (by omega)))
      · rw [ers_mapG _ (fun x : Nat => dR (r ++ [(x : Int)])) fun _ => rfl]
        show _ = List.map dR (List.map _ _)
        rw [List.map_map]
        rfl
      · rw [st]
        show [_, _, _, _, some (T.lst (_ ++ _)), _, _] = [_, _, _, _, some (T.lst (List.map _ (_ ++ _))), _, _]
        rw [List.map_append, List.map_map]
        rfl
    · subst hρ
      refine Ss.frz 4 (d := dT (rowsP p (i + 1))) ?_ rfl (er_tS _)
      exact Ss.cons (Sm.set hX 2 (nm hX 4) (Ss.drop 3 (Ss.drop 4 (Ss.nil rfl))))
  · subst hρ
    exact Ss.cons (Sm.ret (nm hX 2) rfl)
end
/-! ### k04: the law's own steps -/
theorem eqb_pair (a b c d : Int) : eqb (.tup [.int a, .int b]) (.tup [.int c, .int d]) = (decide (a = c) && decide (b = d)) := by
  rw [eqb_tup, eqvAll_cons, eqvAll_cons, eqvAll_nil, eqb_int, eqb_int, Bool.and_true]
theorem ok_pair (a b : Int) : Ok 1 (.tup [.int a, .int b]) := ok_tup (n := 0) fun d hd => by
  simp only [List.mem_cons, List.not_mem_nil, or_false] at hd
  rcases hd with rfl | rfl <;> exact ok_int
/-- whether an answer Back is as told: by going through all -/
def lawB (p : Int) (n : Nat) (tab : Tb) (m : Int) (ts : List Tb) : Bool :=
  !(!decide (pwL p n tab (perL p n tab) = unitL n) || !decide (m = (perL p n tab : Int))) && decide (ts = (primesL' (perL p n tab)).map fun q => pwL p n tab (perL p n tab / q))
section
variable {p : Int} {n : Nat} {tab : Tb}
theorem due_pw (hp : 2 ≤ p) (ht : Tab p n tab) (m : Nat) : dueB p tab m = (primesL' m).map fun q => pwL p n tab (m / q) := List.map_congr_left fun q _ => turnedL_pw hp ht _
/-- shown to be the least -/
theorem per_is (R : Rnd p) (W : Tn p n tab) {m : Nat} (h1 : 1 ≤ m) (h : turnedL p tab m = unitL n) (hq : inB (unitL n) (dueB p tab m) = false) : perL p n tab = m ∧ firL p n tab = 0 := by
  have P := per_ok R W.tab W.n1 W.n3
  rw [turnedL_pw R.h.two W.tab] at h
  obtain ⟨m', rfl⟩ : ∃ m', m = m' + 1 := ⟨m - 1, by omega⟩
  have hf := full_of_left R W.tab (pw_ok R.h.two W.tab m') h
  have f0 := P.back R W.tab hf
  rw [f0] at P
  refine ⟨least_by_primes (by have := P.lt; omega) h1 ((P.dvd R W.tab _).mp h) fun r hr z => ?_, f0⟩
  refine inB_no.mp hq ?_
  rw [due_pw R.h.two W.tab]
  exact List.mem_map.mpr ⟨r, hr, (P.dvd R W.tab _).mpr z⟩
theorem per_unit (R : Rnd p) (W : Tn p n tab) (h : pwL p n tab (perL p n tab) = unitL n) : firL p n tab = 0 := by
  have P := per_ok R W.tab W.n1 W.n3
  refine Decidable.byContradiction fun z => ?_
  have := P.lt
  have e : pwL p n tab (firL p n tab) = pwL p n tab 0 := by rw [← P.eq, h]; rfl
  exact P.unl 0 (firL p n tab) (by omega) P.lt e.symm
theorem due_no (R : Rnd p) (W : Tn p n tab) (h : firL p n tab = 0) : inB (unitL n) (dueB p tab (perL p n tab)) = false := by
  have P := per_ok R W.tab W.n1 W.n3
  refine inB_no.mpr fun z => ?_
  rw [due_pw R.h.two W.tab] at z
  obtain ⟨q, hq, e⟩ := List.mem_map.mp z
  have hq := primesL'_le hq
  have hlt : perL p n tab / q < perL p n tab := Nat.div_lt_self (by omega) (by omega)
  have hpos : 0 < perL p n tab / q := Nat.div_pos hq.2 (by omega)
  exact P.unl 0 _ hpos hlt e.symm
theorem back_law (R : Rnd p) (W : Tn p n tab) (m : Int) (ts : List Tb) : backB p n tab m ts = lawB p n tab m ts := by
  have P := per_ok R W.tab W.n1 W.n3
  have lt := P.lt
  rw [Bool.eq_iff_iff]
  unfold backB lawB
  simp only [Bool.and_eq_true, decide_eq_true_eq, Bool.not_eq_true', Bool.or_eq_false_iff, Bool.not_eq_false']
  constructor
  · rintro ⟨⟨h1, h2⟩, h3, h4, h5⟩
    obtain ⟨e1, e2⟩ := per_is R W (by omega) h3 h5
    refine ⟨⟨?_, by omega⟩, ?_⟩
    · rw [P.eq, e2]
      rfl
    · rw [h4, due_pw R.h.two W.tab, e1]
  · rintro ⟨⟨h1, h2⟩, h3⟩
    have f0 := per_unit R W h1
    have few := P.few
    have em : m.toNat = perL p n tab := by omega
    have h2p := R.h.two
    have hb : ((p.toNat ^ n : Nat) : Int) ≤ p ^ 4 := by
      have : (p ^ 4 : Int) = ((p.toNat ^ 4 : Nat) : Int) := by
        rw [Int.natCast_pow, Int.toNat_of_nonneg (by omega)]
      rw [this]
      exact Int.ofNat_le.mpr (Nat.pow_le_pow_right (by omega) (by have := W.n3; omega))
    refine ⟨⟨by omega, by omega⟩, ?_, ?_, ?_⟩
    · rw [em, turnedL_pw h2p W.tab, h1]
    · rw [em, due_pw h2p W.tab, h3]
    · rw [em]
      exact due_no R W f0
end
/-- the classes -/
structure K4Ok (M : Md) (CA CU CL CB : Addr) : Prop where
  iB : IsC M.K CB
  iL : IsC M.K CL
  mA : M.mg "Answer" = some (.ref CA)
  mU : M.mg "Undone" = some (.ref CU)
  mL : M.mg "Lost" = some (.ref CL)
  mB : M.mg "Back" = some (.ref CB)
  nL : NoAttr M.K CL "row"
  nM : NoAttr M.K CB "many"
  nT : NoAttr M.K CB "tables"
  bb : PySem.W.kitOne M.K (.ref CB) (.ref CB) = some true
  bl : PySem.W.kitOne M.K (.ref CB) (.ref CL) = some false
  ba : PySem.W.kitOne M.K (.ref CB) (.ref CA) = some true
  bu : PySem.W.kitOne M.K (.ref CB) (.ref CU) = some false
  lb : PySem.W.kitOne M.K (.ref CL) (.ref CB) = some false
  ll : PySem.W.kitOne M.K (.ref CL) (.ref CL) = some true
  la : PySem.W.kitOne M.K (.ref CL) (.ref CA) = some true
  lu : PySem.W.kitOne M.K (.ref CL) (.ref CU) = some false
section
variable {M : Md} {CA CU CL CB : Addr}
def gLLine (ds : List D) (t : T) : Prop := ∃ p n tab, ds = [.int p, dT tab] ∧ Tn p n tab ∧ t = .sh (.tup [dTs (turnsL p n tab (perL p n tab)), dT (pwL p n tab (perL p n tab))])
theorem all_range {n : Nat} {f g : Nat → Bool} (h : ∀ i, i < n → f i = g i) : (List.range n).all f = (List.range n).all g := by
  rw [Bool.eq_iff_iff, List.all_eq_true, List.all_eq_true]
  exact ⟨fun q i hi => (h i (List.mem_range.mp hi)) ▸ q i hi, fun q i hi => (h i (List.mem_range.mp hi)).symm ▸ q i hi⟩
def gDue4 (CL CB : Addr) (ds : List D) (t : T) : Prop := (∃ p n tab m ts, ds = [.int p, dT tab, dB CB m ts] ∧ Tn p n tab ∧ t = .sh (.bl (lawB p n tab m ts))) ∨
  ∃ p n tab row, ds = [.int p, dT tab, dL CL row] ∧ Tn p n tab ∧ row.length ≤ 1000 ∧ t = .sh (.bl (lostB p n tab row))
theorem atI_turn {p : Int} {n : Nat} {tab : Tb} {m j : Nat} (h : j < m) : atI ((turnsL p n tab m).map dT) (j : Int) = some (dT (pwL p n tab j)) := atI_nat (by rw [List.getElem?_map, turns_get, if_pos h]; rfl)
def gRight4 (ds : List D) (t : T) : Prop := ∃ p n tab other, ds = [.int p, dT tab, dT other] ∧ Tn p n tab ∧ Tab p n other ∧ t = .sh (.bl true)
end
/-! ### counts.py -/
/-- all tables, in order -/
def allT (p : Int) (n : Nat) : List Tb := (rowsP p (n * n)).map (chunkT n)
def ordI (p : Int) (n : Nat) (t : Tb) : Int := (perL p n t : Int) - firL p n t
def isOrd (p : Int) (n : Nat) (m : Int) (t : Tb) : Bool := decide (rankL p n t = n) && decide (ordI p n t = m)
def manyT (p : Int) (n : Nat) (m : Int) : List Tb := (allT p n).filter (isOrd p n m)
/-- few tables -/
def Few (p : Int) (n : Nat) : Prop := (n = 3 → p ≤ 2) ∧ p ≤ 5
theorem few_pow {p : Int} {n : Nat} (hp : Round p) (h1 : 1 ≤ n) (h3 : n ≤ 3) (hf : Few p n) : p.toNat ^ (n * n) ≤ 700 := by
  have h2 := hp.two
  have h5 := hf.2
  have hn : n = 1 ∨ n = 2 ∨ n = 3 := by omega
  rcases hn with rfl | rfl | rfl
  · calc p.toNat ^ 1 ≤ 5 ^ 1 := Nat.pow_le_pow_left (by omega) 1
      _ ≤ 700 := by decide
  · calc p.toNat ^ 4 ≤ 5 ^ 4 := Nat.pow_le_pow_left (by omega) 4
      _ ≤ 700 := by decide
  · have := hf.1 rfl
    calc p.toNat ^ 9 ≤ 2 ^ 9 := Nat.pow_le_pow_left (by omega) 9
      _ ≤ 700 := by decide
theorem few_pow' {p : Int} {n : Nat} (hp : Round p) (h1 : 1 ≤ n) (h3 : n ≤ 3) (hf : Few p n) : ∀ j, j ≤ n * n → p.toNat ^ j ≤ 20000 := fun j hj => by
  have := few_pow hp h1 h3 hf
  have h2 := hp.two
  have : p.toNat ^ j ≤ p.toNat ^ (n * n) := Nat.pow_le_pow_right (by omega) hj
  omega
theorem allT_tab {p : Int} {n : Nat} : ∀ t ∈ allT p n, Tab p n t := fun t ht => by
  obtain ⟨r, hr, rfl⟩ := List.mem_map.mp ht
  exact (chunk_ok (rowsP_mem.mp hr)).1
theorem allT_mem {p : Int} {n : Nat} {t : Tb} (h : Tab p n t) (hp : 0 < p) : t ∈ allT p n := by
  refine List.mem_map.mpr ⟨t.flatten, rowsP_mem.mpr ?_, flat_chunk h⟩
  refine ⟨?_, fun x hx => ?_⟩
  · have : ∀ (l : List (List Int)), (∀ r ∈ l, r.length = n) → l.flatten.length = l.length * n := fun l => by
      induction l with
      | nil => intro _; simp
      | cons r l ih =>
        intro q
        rw [List.flatten_cons, List.length_append, q r (List.mem_cons_self ..), ih fun r hr => q r (List.mem_cons_of_mem _ hr), List.length_cons, Nat.succ_mul]
        omega
    rw [this t fun r hr => (h.row r hr).1, h.len]
  · obtain ⟨r, hr, hx⟩ := List.mem_flatten.mp hx
    exact (h.row r hr).2 x hx
theorem allT_len {p : Int} {n : Nat} : (allT p n).length = p.toNat ^ (n * n) := by
  unfold allT
  rw [List.length_map, rowsP_len]
theorem allT_nd {p : Int} {n : Nat} : (allT p n).Nodup := by
  unfold allT
  refine List.pairwise_map.mpr ?_
  have nd : (rowsP p (n * n)).Nodup := (rowsP_sorted (p := p) (n * n)).imp fun {a b} h e => by
    rw [e] at h
    exact absurd h (List.lt_irrefl b)
  refine nd.imp_of_mem fun {a b} ha hb ne e => ne ?_
  rw [← (chunk_ok (rowsP_mem.mp ha)).2, ← (chunk_ok (rowsP_mem.mp hb)).2, e]
def powI (p : Int) : Nat → Int
  | 0 => 1
  | k + 1 => powI p k * p
def howL (p : Int) (n : Nat) : Nat → Int
  | 0 => 1
  | k + 1 => howL p n k * (powI p n - powI p k)
theorem powI_small {p : Int} (hp : Round p) : ∀ k, k ≤ 3 → 1 ≤ powI p k ∧ powI p k ≤ 343 := fun k hk => by
  have hn : k = 0 ∨ k = 1 ∨ k = 2 ∨ k = 3 := by omega
  rcases hp with rfl | rfl | rfl | rfl <;> rcases hn with rfl | rfl | rfl | rfl <;> decide
section
variable {M : Md}
def gCheckRows (ds : List D) (t : T) : Prop := ∃ p, ∃ n : Nat, ds = [.int p, .int n] ∧ Round p ∧ (1 ≤ n ∧ n ≤ 3) ∧ t = .sh .non
theorem ok_check_rows (C : CM M) (F : FnE M "check_rows" s_check_rows P_check_rows) (H1 : DefOk M 2 "check_round" gRound) (H2 : DefOk M 1 "is_whole" gWhole) : DefOk M 3 "check_rows" gCheckRows := by
  refine def_okE F c_check_rows (fun ds t ⟨p, n, h, _⟩ => by rw [h]; rfl) fun X ds t hX ⟨p, n, h, hp, hn, ht⟩ => ?_
  subst h ht
  refine Ss.cons (Sm.expr (Ev.call hX H1 (.cons (nm hX 0) .nil) ⟨p, rfl, hp, rfl⟩) ?_)
  refine Ss.cons (Sm.ife (q := false) (Te.of (Tw.te (Tw.or (Te.not (Te.val (Ev.call hX H2 (.cons (nm hX 1) .nil) ⟨n, rfl, rfl⟩))) fun _ => Tw.or1 (Te.not (Te.chain CmpD.le CmpD.le Ev.int.rd (nmS hX 1) (e_most hX C).rd)))) ?_) (fun h => nomatch h) fun _ => Ss.nil (Ss.nil rfl))
  rw [decide_eq_true (by omega), decide_eq_true (by omega)]
  rfl
def gPower (ds : List D) (t : T) : Prop := ∃ p, ∃ k : Nat, ds = [.int p, .int k] ∧ Round p ∧ k ≤ 3 ∧ t = .sh (.int (powI p k))
theorem ok_power (B : BI M.mg) (F : FnE M "power_of" s_power_of P_power_of) : DefOk M 1 "power_of" gPower := by
  refine def_okE F c_power_of (fun ds t ⟨p, n, h, _⟩ => by rw [h]; rfl) fun X ds t hX ⟨p, k, h, hp, hk, ht⟩ => ?_
  subst h ht
  have h7 := hp.le
  have h2 := hp.two
  refine Ss.cons (Sm.set hX 2 Ev.int ?_)
  refine Ss.consP (fun ρ => ρ = [some (.sh (.int p)), some (tI k), some (.sh (.int (powI p k))), none])
    (Sm.forN (xs := List.range k) (en := fun (i : Nat) => D.int i) (fun j ρ => ρ = [some (.sh (.int p)), some (tI k), some (.sh (.int (powI p j))), none]) hX 3
      (itRange hX B.range (nmS hX 1) (by omega)) rfl (fun j ρ h => by rw [h]; rfl) (fun j i ρ hj hI => ?_) fun ρ h => by rw [List.length_range] at h; exact h) fun ρ hρ => ?_
  · subst hI
    exact Ss.cons (Sm.augM hX 2 (nm hX 0) (.inr (by omega)) (Ss.drop 3 (Ss.nil rfl)))
  · subst hρ
    exact Ss.cons (Sm.ret (nm hX 2) rfl)
def gHow (ds : List D) (t : T) : Prop := ∃ p, ∃ n : Nat, ds = [.int p, .int n] ∧ Round p ∧ (1 ≤ n ∧ n ≤ 3) ∧ t = .sh (.int (howL p n n))
theorem ok_how (B : BI M.mg) (F : FnE M "how_many" s_how_many P_how_many) (H1 : DefOk M 3 "check_rows" gCheckRows) (H2 : DefOk M 1 "power_of" gPower) : DefOk M 4 "how_many" gHow := by
  refine def_okE F c_how_many (fun ds t ⟨p, n, h, _⟩ => by rw [h]; rfl) fun X ds t hX ⟨p, n, h, hp, hn, ht⟩ => ?_
  subst h ht
  refine Ss.cons (Sm.expr (Ev.call hX H1 (.cons (nm hX 0) (.cons (nm hX 1) .nil)) ⟨p, n, rfl, hp, hn, rfl⟩) ?_)
  refine Ss.cons (Sm.set hX 2 Ev.int ?_)
  refine Ss.consP (fun ρ => ρ = [some (.sh (.int p)), some (tI n), some (.sh (.int (howL p n n))), none])
    (Sm.forN (xs := List.range n) (en := fun (i : Nat) => D.int i) (fun j ρ => ρ = [some (.sh (.int p)), some (tI n), some (.sh (.int (howL p n j))), none]) hX 3
      (itRange hX B.range (nmS hX 1) (by omega)) rfl (fun j ρ h => by rw [h]; rfl) (fun j i ρ hj hI => ?_) fun ρ h => by rw [List.length_range] at h; exact h) fun ρ hρ => ?_
  · subst hI
    obtain ⟨hlt, rfl⟩ := rng_at hj
    have a := powI_small hp n hn.2
    have b := powI_small hp i (by omega)
    exact Ss.cons (Sm.augM hX 2 (Ev.sub (Ev.rd (Ev.call hX H2 (.cons (nm hX 0) (.cons (nm hX 1) .nil)) ⟨p, n, rfl, hp, hn.2, rfl⟩)) (Ev.rd (Ev.call hX H2 (.cons (nm hX 0) (.cons (nm hX 3) .nil)) ⟨p, i, rfl, hp, by omega, rfl⟩))) (.inr (by omega)) (Ss.drop 3 (Ss.nil rfl)))
  · subst hρ
    exact Ss.cons (Sm.ret (nm hX 2) rfl)
def gCheckFew (ds : List D) (t : T) : Prop := ∃ p, ∃ n : Nat, ds = [.int p, .int n] ∧ Few p n ∧ t = .sh .non
theorem ok_check_few (F : FnE M "check_few" s_check_few P_check_few) : DefOk M 1 "check_few" gCheckFew := by
  refine def_okE F c_check_few (fun ds t ⟨p, n, h, _⟩ => by rw [h]; rfl) fun X ds t hX ⟨p, n, h, hf, ht⟩ => ?_
  subst h ht
  refine Ss.cons (Sm.ife (q := false) (Te.of (Tw.te (Tw.or (Tw.te (Tw.and (Te.cmp CmpD.eqI (nmS hX 1) Ev.int.rd) fun _ => Tw.and1 (Te.cmp CmpD.gt (nmS hX 0) Ev.int.rd))) fun _ => Tw.or1 (Te.cmp CmpD.gt (nmS hX 0) Ev.int.rd))) ?_) (fun h => nomatch h) fun _ => Ss.nil (Ss.nil rfl))
  have h5 := hf.2
  rw [show decide ((5 : Int) < p) = false from decide_eq_false (by omega), Bool.or_false]
  by_cases e : n = 3
  · have := hf.1 e
    rw [show decide ((2 : Int) < p) = false from decide_eq_false (by omega), Bool.and_false]
  · rw [decide_eq_false (by omega), Bool.false_and]
def gOfMany (ds : List D) (t : T) : Prop := ∃ p, ∃ n : Nat, ∃ m : Int, ds = [.int p, .int n, .int m] ∧ Round p ∧ (1 ≤ n ∧ n ≤ 3) ∧ Few p n ∧ t = .lst ((manyT p n m).map fun t => .sh (dT t))
theorem ok_of_many (B : BI M.mg) (F : FnE M "of_many" s_of_many P_of_many) (H1 : DefOk M 1 "all_rows" gAllRows) (H2 : DefOk M 3 "rank_of" gRankOf) (H3 : DefOk M 3 "round_of" gRoundOf) : DefOk M 4 "of_many" gOfMany := by
  refine def_okE F c_of_many (fun ds t ⟨p, n, m, h, _⟩ => by rw [h]; rfl) fun X ds t hX ⟨p, n, m, h, hp, hn, hf, ht⟩ => ?_
  subst h ht
  have R : Rnd p := ⟨hp⟩
  have n3 := hn.2
  have hn9 : n * n ≤ 9 := Nat.mul_le_mul hn.2 hn.2
  have hpw := few_pow hp hn.1 hn.2 hf
  refine Ss.cons (Sm.set hX 3 (Ev.list .nil) ?_)
  refine Ss.consP (fun ρ => ρ = [some (.sh (.int p)), some (tI n), some (.sh (.int m)), some (.lst ((manyT p n m).map fun t => T.sh (dT t))), none, none, none])
    (Sm.forN (xs := rowsP p (n * n)) (en := dR) (fun j ρ => ρ = [some (.sh (.int p)), some (tI n), some (.sh (.int m)), some (.lst (((((rowsP p (n * n)).take j).map (chunkT n)).filter (isOrd p n m)).map fun t => T.sh (dT t))), none, none, none]) hX 4
      (ItF.list (Ev.call hX H1 (.cons (nm hX 0) (.cons ((Ev.mul (nmS hX 1) (nmS hX 1) (.inl (by omega))).cast (t' := tI ((n * n : Nat) : Int)) (by rw [Int.natCast_mul])) .nil)) ⟨p, n * n, rfl, hp, by omega, few_pow' hp hn.1 hn.2 hf, rfl⟩)) rfl (fun j ρ h => by rw [h]; rfl) (fun j flat ρ hj hI => ?_) fun ρ h => by rw [List.take_length] at h; exact h) fun ρ hρ => ?_
  · subst hI
    have lo := rowsP_mem.mp (List.mem_of_getElem? hj)
    have co := chunk_ok lo
    have W : Tn p n (chunkT n flat) := ⟨hp, hn.1, hn.2, co.1⟩
    refine Ss.cons (Sm.lcN (xs := List.range n) (en := fun (i : Nat) => D.int i) (g := fun i => tR ((flat.drop (i * n)).take n)) hX 5 6 (itRange hX B.range (nmS hX 1) (by omega)).c (fun X' b hX' i hi => (Ev.cutLH (ds := flat.map D.int) (i := ((i * n : Nat) : Int)) (j := ((i * n + n : Nat) : Int)) (Ev.lsS (nm hX' 4)) ((Ev.mul (nmS hX' 6) (nmS hX' 1) (.inl (by have := List.mem_range.mp hi; omega))).rd.cast (by rw [Int.natCast_mul]; rfl)) ((Ev.add (Ev.rdI (Ev.mul (nmS hX' 6) (nmS hX' 1) (.inl (by have := List.mem_range.mp hi; omega)))) (nmS hX' 1)).rd.cast (by rw [Int.natCast_add, Int.natCast_mul]; rfl))).cast (by
        have hi' := List.mem_range.mp hi
        have := Nat.mul_le_mul_right n (show i + 1 ≤ n from hi')
        rw [Nat.succ_mul] at this
        rw [cutD_map, cutN_mid _ (by rw [lo.len]; exact this)]
        show T.lst _ = T.lst _
        rw [List.map_map]
        rfl)) (sz (by rw [List.length_range]; omega)) (Ss.frz 5 (d := dT (chunkT n flat)) ?_ rfl (by
        show D.lst _ = D.lst _
        rw [ers_mapG _ (fun i => dR ((flat.drop (i * n)).take n)) fun i => er_tR _]
        unfold chunkT
        rw [List.map_map]
        rfl)))
    have e1 : ((rowsP p (n * n)).take (j + 1)).map (chunkT n) = ((rowsP p (n * n)).take j).map (chunkT n) ++ [chunkT n flat] := by
      rw [List.take_add_one, hj, List.map_append]
      rfl
    have sl : ((((rowsP p (n * n)).take j).map (chunkT n)).filter (isOrd p n m)).length ≤ 700 := by
      have := List.length_filter_le (isOrd p n m) (((rowsP p (n * n)).take j).map (chunkT n))
      rw [List.length_map, List.length_take, rowsP_len] at this
      omega
    rw [e1, List.filter_append]
    generalize (((rowsP p (n * n)).take j).map (chunkT n)).filter (isOrd p n m) = pre at sl
    generalize chunkT n flat = tb at W
    refine Ss.cons (Sm.ife (q := isOrd p n m tb) (Te.of (Tw.te (Tw.and (Te.cmp CmpD.eqI (Ev.rdI ((Ev.call hX H2 (.cons (nm hX 0) (.cons (nm hX 5) .nil)) ⟨p, tb, n, rfl, ⟨hp, by omega, by rw [W.tab.len]; omega, W.tab.rows⟩, rfl⟩).cast (t' := tI (rankL p n tb)) (by rw [rankG_eq R W.tab.rows]))) (nmS hX 1)) fun _ => Tw.and1 (Te.cmp CmpD.eqI (Rd.ixT (Ev.rd (Ev.call hX H3 (.cons (nm hX 0) (.cons (nm hX 5) .nil)) ⟨p, n, tb, rfl, W, rfl⟩)) Ev.int.rd rfl) (nmS hX 2)))) ?_) (fun hq => ?_) fun hq => Ss.nil (Ss.drop 4 (Ss.drop 5 (Ss.nil ?_))))
    · unfold isOrd ordI
      congr 1
      by_cases e : rankL p n tb = n
      · rw [decide_eq_true e, decide_eq_true (by omega)]
      · rw [decide_eq_false e, decide_eq_false (by omega)]
    · refine Ss.cons (Sm.app (ts := pre.map fun t => T.sh (dT t)) (nmN hX 3) (nm hX 5) (Ss.nil (Ss.drop 4 (Ss.drop 5 (Ss.nil ?_)))) (by rw [List.length_map]; exact small1000 (by omega)))
      rw [List.filter_cons_of_pos hq, List.map_append]
      rfl
    · rw [List.filter_cons_of_neg (by rw [hq]; exact Bool.false_ne_true), List.filter_nil, List.append_nil]
      rfl
  · subst hρ
    exact Ss.cons (Sm.retV hX 3 rfl)
def gCheckMany (ds : List D) (t : T) : Prop := ∃ p, ∃ n : Nat, ∃ m : Int, ds = [.int p, .int n, .int m] ∧ Round p ∧ (1 ≤ n ∧ n ≤ 3) ∧ Few p n ∧ 1 ≤ m ∧ t = .sh .non
theorem ok_check_many (F : FnE M "check_many" s_check_many P_check_many) (H1 : DefOk M 3 "check_rows" gCheckRows) (H2 : DefOk M 1 "check_few" gCheckFew) (H3 : DefOk M 1 "is_whole" gWhole) : DefOk M 4 "check_many" gCheckMany := by
  refine def_okE F c_check_many (fun ds t ⟨p, n, m, h, _⟩ => by rw [h]; rfl) fun X ds t hX ⟨p, n, m, h, hp, hn, hf, hm, ht⟩ => ?_
  subst h ht
  refine Ss.cons (Sm.expr (Ev.call hX H1 (.cons (nm hX 0) (.cons (nm hX 1) .nil)) ⟨p, n, rfl, hp, hn, rfl⟩) ?_)
  refine Ss.cons (Sm.expr (Ev.call hX H2 (.cons (nm hX 0) (.cons (nm hX 1) .nil)) ⟨p, n, rfl, hf, rfl⟩) ?_)
  refine Ss.cons (Sm.ife (q := false) (Te.of (Tw.te (Tw.or (Te.not (Te.val (Ev.call hX H3 (.cons (nm hX 2) .nil) ⟨m, rfl, rfl⟩))) fun _ => Tw.or1 (Te.cmp CmpD.lt (nmS hX 2) Ev.int.rd))) ?_) (fun h => nomatch h) fun _ => Ss.nil (Ss.nil rfl))
  rw [decide_eq_false (by omega)]
  rfl
def gOfOrder (ds : List D) (t : T) : Prop := ∃ p, ∃ n : Nat, ∃ m : Int, ds = [.int p, .int n, .int m] ∧ Round p ∧ (1 ≤ n ∧ n ≤ 3) ∧ Few p n ∧ 1 ≤ m ∧ t = tI (manyT p n m).length
theorem ers_many (xs : List Tb) : T.er (.lst (xs.map fun t => T.sh (dT t))) = dTs xs := congrArg D.lst (ers_mapG _ dT (fun _ => rfl) xs)
theorem ok_of_order (B : BI M.mg) (F : FnE M "of_order" s_of_order P_of_order) (H1 : DefOk M 4 "check_many" gCheckMany) (H2 : DefOk M 4 "of_many" gOfMany) : DefOk M 5 "of_order" gOfOrder := by
  refine def_okE F c_of_order (fun ds t ⟨p, n, m, h, _⟩ => by rw [h]; rfl) fun X ds t hX ⟨p, n, m, h, hp, hn, hf, hm, ht⟩ => ?_
  subst h ht
  refine Ss.cons (Sm.expr (Ev.call hX H1 (.cons (nm hX 0) (.cons (nm hX 1) (.cons (nm hX 2) .nil))) ⟨p, n, m, rfl, hp, hn, hf, hm, rfl⟩) ?_)
  refine Ss.cons (Sm.ret (e_len hX B.len (Rd.cast (Ev.rd (Ev.call hX H2 (.cons (nm hX 0) (.cons (nm hX 1) (.cons (nm hX 2) .nil))) ⟨p, n, m, rfl, hp, hn, hf, rfl⟩)) (ers_many _))) ?_)
  rw [List.length_map]
def gTableBy (ds : List D) (t : T) : Prop := ∃ p, ∃ n : Nat, ∃ m : Int, ∃ i : Nat, ∃ x, ds = [.int p, .int n, .int m, .int i] ∧ Round p ∧ (1 ≤ n ∧ n ≤ 3) ∧ Few p n ∧ 1 ≤ m ∧ (manyT p n m)[i]? = some x ∧ t = .sh (dT x)
theorem ok_table_by (B : BI M.mg) (F : FnE M "table_by" s_table_by P_table_by) (H1 : DefOk M 4 "check_many" gCheckMany) (H2 : DefOk M 4 "of_many" gOfMany) (H3 : DefOk M 1 "is_whole" gWhole) : DefOk M 5 "table_by" gTableBy := by
  refine def_okE F c_table_by (fun ds t ⟨p, n, m, i, x, h, _⟩ => by rw [h]; rfl) fun X ds t hX ⟨p, n, m, i, x, h, hp, hn, hf, hm, hx, ht⟩ => ?_
  subst h ht
  have hi := (List.getElem?_eq_some_iff.mp hx).1
  refine Ss.cons (Sm.expr (Ev.call hX H1 (.cons (nm hX 0) (.cons (nm hX 1) (.cons (nm hX 2) .nil))) ⟨p, n, m, rfl, hp, hn, hf, hm, rfl⟩) ?_)
  refine Ss.cons (Sm.set hX 4 (Ev.call hX H2 (.cons (nm hX 0) (.cons (nm hX 1) (.cons (nm hX 2) .nil))) ⟨p, n, m, rfl, hp, hn, hf, rfl⟩) (Ss.frz 4 (d := dTs (manyT p n m)) ?_ rfl (ers_many _)))
  refine Ss.cons (Sm.ife (q := false) (Te.of (Tw.te (Tw.or (Te.not (Te.val (Ev.call hX H3 (.cons (nm hX 3) .nil) ⟨i, rfl, rfl⟩))) fun _ => Tw.or1 (Te.not (Te.chain CmpD.le CmpD.lt Ev.int.rd (nmS hX 3) (e_len hX B.len (nmS hX 4)).rd)))) ?_) (fun h => nomatch h) fun _ => Ss.nil ?_)
  · rw [List.length_map, decide_eq_true (by omega), decide_eq_true (by omega)]
    rfl
  · exact Ss.cons (Sm.ret (Ev.ix (nm hX 4) (nmS hX 3) (atI_nat (by rw [List.getElem?_map, hx]; rfl))) rfl)
def gNumberOf (ds : List D) (t : T) : Prop := ∃ p, ∃ n i : Nat, ∃ x, ds = [.int p, dT x] ∧ Tn p n x ∧ Few p n ∧ rankL p n x = n ∧ (manyT p n (ordI p n x))[i]? = some x ∧ t = tI i
theorem ok_number_of (B : BI M.mg) (F : FnE M "number_of" s_number_of P_number_of) (H1 : DefOk M 5 "check_one" gCheckOne) (H2 : DefOk M 1 "check_few" gCheckFew) (H3 : DefOk M 3 "rank_of" gRankOf) (H4 : DefOk M 4 "of_many" gOfMany) (H5 : DefOk M 3 "round_of" gRoundOf) : DefOk M 6 "number_of" gNumberOf := by
  refine def_okE F c_number_of (fun ds t ⟨p, n, i, x, h, _⟩ => by rw [h]; rfl) fun X ds t hX ⟨p, n, i, x, h, W, hf, hr, hx, ht⟩ => ?_
  subst h ht
  have R : Rnd p := ⟨W.rd⟩
  have n3 := W.n3
  have hl : ((x.map dR).length : Int) = n := by rw [List.length_map, W.tab.len]
  refine Ss.cons (Sm.expr (Ev.call hX H1 (.cons (nm hX 0) (.cons (nm hX 1) .nil)) ⟨p, x, rfl, W.rd, W.tab.isTable W.n1 W.n3, rfl⟩) ?_)
  refine Ss.cons (Sm.expr (Ev.call hX H2 (.cons (nm hX 0) (.cons ((e_len hX B.len (nmS hX 1)).cast (t' := tI n) (by rw [hl])) .nil)) ⟨p, n, rfl, hf, rfl⟩) ?_)
  refine Ss.cons (Sm.ife (q := false) (Te.of (Te.cmp CmpD.lt (Ev.rdI ((Ev.call hX H3 (.cons (nm hX 0) (.cons (nm hX 1) .nil)) ⟨p, x, n, rfl, ⟨W.rd, by omega, by rw [W.tab.len]; omega, W.tab.rows⟩, rfl⟩).cast (t' := tI (rankL p n x)) (by rw [rankG_eq R W.tab.rows]))) (e_len hX B.len (nmS hX 1)).rd) ?_) (fun h => nomatch h) fun _ => Ss.nil ?_)
  · rw [hl]
    exact decide_eq_false (by omega)
  · exact Ss.cons (Sm.ret (e_index (f := dT) (x := x) (ys := manyT p n (ordI p n x)) (j := i) hX eqb_dT (ok_dT x) (ok_dTs _) (Rd.cast (Ev.rd (Ev.call hX H4 (.cons (nm hX 0) (.cons ((e_len hX B.len (nmS hX 1)).cast (t' := tI n) (by rw [hl])) (.cons (Ev.ixT (Ev.call hX H5 (.cons (nm hX 0) (.cons (nm hX 1) .nil)) ⟨p, n, x, rfl, W, rfl⟩) Ev.int.rd rfl) .nil))) ⟨p, n, ordI p n x, rfl, W.rd, ⟨W.n1, W.n3⟩, hf, rfl⟩)) (ers_many _)) (nmS hX 1) hx (fun j hj e => Nat.lt_irrefl j (by have := (List.getElem?_inj (List.getElem?_eq_some_iff.mp e).1 (allT_nd.sublist List.filter_sublist)).mp (e.trans hx.symm); omega))) rfl)
end
/-! ### k07: the tables in groups -/
/-- induction from behind -/
theorem List.reverseRecOn' {α : Type} {P : List α → Prop} (l : List α) (nil : P []) (snoc : ∀ l t, P l → P (l ++ [t])) : P l := by
  have : ∀ k (l : List α), l.length = k → P l := fun k => by
    induction k with
    | zero => exact fun l h => List.length_eq_zero_iff.mp h ▸ nil
    | succ k ih =>
      intro l h
      rcases List.eq_nil_or_concat l with e | ⟨q, y, e⟩
      · rw [e] at h
        cases h
      · rw [List.concat_eq_append] at e
        rw [e, List.length_append] at h
        rw [e]
        exact snoc q y (ih q (Nat.succ.inj h))
  exact this _ l rfl
theorem nat_inj {a b : Nat} (h : (a : Int) = (b : Int)) : a = b := by omega
def fullT (p : Int) (n : Nat) (l : List Tb) : List Tb := l.filter fun t => decide (rankL p n t = n)
def keysG (p : Int) (n : Nat) (l : List Tb) : List Nat := l.foldl (fun ks t => if perL p n t ∈ ks then ks else ks ++ [perL p n t]) []
def atG (p : Int) (n : Nat) (l : List Tb) (m : Int) : List Tb := l.filter fun t => decide ((perL p n t : Int) = m)
def dicG (p : Int) (n : Nat) (l : List Tb) : List (Key × D) := (keysG p n l).map fun (k : Nat) => (Sum.inl (k : Int), dTs (atG p n l k))
section
variable {p : Int} {n : Nat}
theorem keysG_snoc (l : List Tb) (t : Tb) : keysG p n (l ++ [t]) = if perL p n t ∈ keysG p n l then keysG p n l else keysG p n l ++ [perL p n t] := by
  unfold keysG
  rw [List.foldl_append]
  rfl
theorem keysG_mem : ∀ (l : List Tb) (k : Nat), k ∈ keysG p n l ↔ ∃ t ∈ l, perL p n t = k := fun l => by
  induction l using List.reverseRecOn' with
  | nil => exact fun k => ⟨(fun h => nomatch h), fun ⟨t, h, _⟩ => nomatch h⟩
  | snoc l t ih =>
    intro k
    rw [keysG_snoc]
    split
    · rename_i h
      rw [ih k]
      constructor
      · rintro ⟨s, hs, e⟩
        exact ⟨s, List.mem_append_left _ hs, e⟩
      · rintro ⟨s, hs, e⟩
        rcases List.mem_append.mp hs with z | z
        · exact ⟨s, z, e⟩
        · rw [List.mem_singleton.mp z] at e
          exact (ih k).mp (e ▸ h)
    · rw [List.mem_append, ih k, List.mem_singleton]
      constructor
      · rintro (⟨s, hs, e⟩ | e)
        · exact ⟨s, List.mem_append_left _ hs, e⟩
        · exact ⟨t, List.mem_append_right _ (List.mem_singleton.mpr rfl), e.symm⟩
      · rintro ⟨s, hs, e⟩
        rcases List.mem_append.mp hs with z | z
        · exact .inl ⟨s, z, e⟩
        · rw [List.mem_singleton.mp z] at e
          exact .inr e.symm
theorem keysG_nd (l : List Tb) : (keysG p n l).Nodup := by
  induction l using List.reverseRecOn' with
  | nil => exact List.nodup_nil
  | snoc l t ih =>
    rw [keysG_snoc]
    split
    · exact ih
    · rename_i h
      exact List.nodup_append.mpr ⟨ih, List.nodup_cons.mpr ⟨(fun z => nomatch z), List.nodup_nil⟩, fun a ha b hb e => h (by rw [List.mem_singleton.mp hb] at e; exact e ▸ ha)⟩
theorem atG_no {l : List Tb} {m : Int} (h : ∀ k ∈ keysG p n l, (k : Int) ≠ m) : atG p n l m = [] := List.filter_eq_nil_iff.mpr fun t ht e => h _ ((keysG_mem l _).mpr ⟨t, ht, rfl⟩) (of_decide_eq_true e)
theorem dicG_get (l : List Tb) (m : Int) : (valD (dicG p n l) (.inl m)).getD (dTs []) = dTs (atG p n l m) := by
  have key : ∀ ks : List Nat, ((valD (ks.map fun (k : Nat) => ((Sum.inl (k : Int) : Key), dTs (atG p n l k))) (.inl m)) = some (dTs (atG p n l m)) ∧ ∃ k ∈ ks, (k : Int) = m) ∨ (valD (ks.map fun (k : Nat) => ((Sum.inl (k : Int) : Key), dTs (atG p n l k))) (.inl m) = none ∧ ∀ k ∈ ks, (k : Int) ≠ m) := fun ks => by
    induction ks with
    | nil => exact .inr ⟨rfl, fun k hk => nomatch hk⟩
    | cons k ks ih =>
      unfold valD at ih ⊢
      rw [List.map_cons]
      by_cases e : (k : Int) = m
      · rw [List.find?_cons_of_pos (by simp [e])]
        exact .inl ⟨by rw [e]; rfl, k, List.mem_cons_self .., e⟩
      · rw [List.find?_cons_of_neg (by simpa using e)]
        rcases ih with ⟨h1, k', h2, h3⟩ | ⟨h1, h2⟩
        · exact .inl ⟨h1, k', List.mem_cons_of_mem _ h2, h3⟩
        · exact .inr ⟨h1, fun k' hk' => (List.mem_cons.mp hk').elim (fun z => z ▸ e) (h2 k')⟩
  rcases key (keysG p n l) with ⟨h, _⟩ | ⟨h, h2⟩
  · rw [show valD (dicG p n l) (.inl m) = _ from h]
    rfl
  · rw [show valD (dicG p n l) (.inl m) = _ from h, atG_no h2]
    rfl
theorem dicG_val {l : List Tb} {k : Nat} (h : k ∈ keysG p n l) : valD (dicG p n l) (.inl (k : Int)) = some (dTs (atG p n l k)) := by
  have key : ∀ ks : List Nat, k ∈ ks → valD (ks.map fun (k : Nat) => ((Sum.inl (k : Int) : Key), dTs (atG p n l k))) (.inl (k : Int)) = some (dTs (atG p n l k)) := fun ks => by
    induction ks with
    | nil => exact fun h => nomatch h
    | cons k' ks ih =>
      intro h
      unfold valD at ih ⊢
      rw [List.map_cons]
      by_cases e : k' = k
      · rw [List.find?_cons_of_pos (by simp [e])]
        rw [e]
        rfl
      · rw [List.find?_cons_of_neg (by simpa using fun z => e (nat_inj z))]
        exact ih ((List.mem_cons.mp h).resolve_left fun z => e z.symm)
  exact key _ h
theorem atG_snoc (l : List Tb) (t : Tb) (m : Int) : atG p n (l ++ [t]) m = if (perL p n t : Int) = m then atG p n l m ++ [t] else atG p n l m := by
  unfold atG
  rw [List.filter_append]
  by_cases e : (perL p n t : Int) = m
  · rw [if_pos e, List.filter_cons_of_pos (p := fun t => decide ((perL p n t : Int) = m)) (decide_eq_true e), List.filter_nil]
  · rw [if_neg e, List.filter_cons_of_neg (p := fun t => decide ((perL p n t : Int) = m)) (by rw [decide_eq_false e]; exact Bool.false_ne_true), List.filter_nil, List.append_nil]
theorem dicG_put (l : List Tb) (t : Tb) : putD (dicG p n l) (.inl (perL p n t : Int)) (dTs (atG p n l (perL p n t) ++ [t])) = dicG p n (l ++ [t]) := by
  have ha : ((dicG p n l).any fun kv => decide (kv.1 = Sum.inl (perL p n t : Int))) = decide (perL p n t ∈ keysG p n l) := by
    rw [Bool.eq_iff_iff, List.any_eq_true, decide_eq_true_iff]
    constructor
    · rintro ⟨q, hq, e⟩
      obtain ⟨k, hk, rfl⟩ := List.mem_map.mp hq
      have e : (Sum.inl (k : Int) : Key) = Sum.inl (perL p n t : Int) := of_decide_eq_true e
      injection e with e
      rw [← nat_inj e]
      exact hk
    · intro h
      exact ⟨_, List.mem_map_of_mem h, decide_eq_true rfl⟩
  unfold putD
  rw [ha]
  unfold dicG
  rw [keysG_snoc]
  by_cases h : perL p n t ∈ keysG p n l
  · rw [if_pos (decide_eq_true h), if_pos h, List.map_map]
    refine List.map_congr_left fun k hk => ?_
    show (if (Sum.inl (k : Int) : Key) = Sum.inl (perL p n t : Int) then _ else _) = _
    by_cases e : perL p n t = k
    · rw [if_pos (by rw [e]), atG_snoc, if_pos (by rw [e]), e]
    · rw [if_neg (fun z => by injection z with z; exact e (nat_inj z).symm), atG_snoc, if_neg fun z : (perL p n t : Int) = (k : Int) => e (nat_inj z)]
  · rw [if_neg (by rw [decide_eq_false h]; exact Bool.false_ne_true), if_neg h, List.map_append]
    congr 1
    · refine List.map_congr_left fun k hk => ?_
      rw [atG_snoc, if_neg fun z : (perL p n t : Int) = (k : Int) => h (by rw [nat_inj z]; exact hk)]
    · show [(Sum.inl (perL p n t : Int), dTs (atG p n l (perL p n t) ++ [t]))] = [((Sum.inl (perL p n t : Int) : Key), dTs (atG p n (l ++ [t]) (perL p n t)))]
      rw [atG_snoc, if_pos rfl]
theorem sum_at (l : List Tb) : ((keysG p n l).map fun (k : Nat) => (atG p n l k).length).sum = l.length := by
  induction l using List.reverseRecOn' with
  | nil => rfl
  | snoc l t ih =>
    have key : ∀ ks : List Nat, ks.Nodup → ((ks.map fun (k : Nat) => (atG p n (l ++ [t]) k).length).sum = (ks.map fun (k : Nat) => (atG p n l k).length).sum + if perL p n t ∈ ks then 1 else 0) := fun ks => by
      induction ks with
      | nil => exact fun _ => rfl
      | cons k ks ihk =>
        intro nd
        obtain ⟨h1, h2⟩ := List.nodup_cons.mp nd
        rw [List.map_cons, List.map_cons, List.sum_cons, List.sum_cons, ihk h2, atG_snoc]
        by_cases e : perL p n t = k
        · rw [if_pos (by rw [e]), List.length_append, if_neg (by rw [e]; exact h1), if_pos (by rw [e]; exact List.mem_cons_self ..)]
          show _ + 1 + (_ + 0) = _
          omega
        · rw [if_neg fun z : (perL p n t : Int) = (k : Int) => e (nat_inj z)]
          by_cases q : perL p n t ∈ ks
          · rw [if_pos q, if_pos (List.mem_cons_of_mem _ q)]
            omega
          · rw [if_neg q, if_neg fun z => (List.mem_cons.mp z).elim e q]
            omega
    rw [keysG_snoc, List.length_append]
    split
    · rename_i h
      rw [key _ (keysG_nd l), ih, if_pos h]
      rfl
    · rename_i h
      rw [List.map_append, List.sum_append, key _ (keysG_nd l), ih, if_neg h]
      show _ + 0 + (List.sum [(atG p n (l ++ [t]) (perL p n t)).length]) = _
      rw [atG_snoc, if_pos rfl, atG_no fun k hk (e : (k : Int) = (perL p n t : Int)) => h (by rw [← nat_inj e]; exact hk)]
      rfl
/-- by number of turns, told fast -/
def fastO (p : Int) (n : Nat) (m : Nat) (t : Tb) : Bool := decide (turnedL p t m = unitL n) && !inB (unitL n) (dueB p t m)
theorem full_fir (R : Rnd p) {t : Tb} (W : Tn p n t) (h : rankL p n t = n) : firL p n t = 0 := (per_ok R W.tab W.n1 W.n3).back R W.tab h
theorem isOrd_fast (R : Rnd p) (h1 : 1 ≤ n) (h3 : n ≤ 3) {m : Nat} (hm : 1 ≤ m) {t : Tb} (ht : Tab p n t) : isOrd p n m t = fastO p n m t := by
  have W : Tn p n t := ⟨R.h, h1, h3, ht⟩
  have P := per_ok R ht h1 h3
  rw [Bool.eq_iff_iff]
  unfold isOrd fastO ordI
  simp only [Bool.and_eq_true, decide_eq_true_eq, Bool.not_eq_true']
  constructor
  · rintro ⟨a, b⟩
    have f := full_fir R W a
    have e : perL p n t = m := by omega
    refine ⟨?_, ?_⟩
    · rw [turnedL_pw R.h.two ht, ← e, P.eq, f]
      rfl
    · rw [← e]
      exact due_no R W f
  · rintro ⟨a, b⟩
    obtain ⟨e1, e2⟩ := per_is R W hm a b
    refine ⟨?_, by rw [e1, e2]; omega⟩
    rw [turnedL_pw R.h.two ht] at a
    obtain ⟨m', rfl⟩ : ∃ m', m = m' + 1 := ⟨m - 1, by omega⟩
    exact full_of_left R ht (pw_ok R.h.two ht m') a
theorem many_fast (R : Rnd p) (h1 : 1 ≤ n) (h3 : n ≤ 3) {m : Nat} (hm : 1 ≤ m) : manyT p n m = (allT p n).filter (fastO p n m) := List.filter_congr fun t ht => isOrd_fast R h1 h3 hm (allT_tab t ht)
theorem many_at (R : Rnd p) (h1 : 1 ≤ n) (h3 : n ≤ 3) (m : Int) : manyT p n m = atG p n (fullT p n (allT p n)) m := by
  unfold manyT atG fullT
  rw [List.filter_filter]
  refine List.filter_congr fun t ht => ?_
  unfold isOrd ordI
  by_cases e : rankL p n t = n
  · have f := full_fir R ⟨R.h, h1, h3, allT_tab t ht⟩ e
    rw [f, decide_eq_true e, Bool.true_and, Bool.and_true]
    congr 1
  · rw [decide_eq_false e, Bool.false_and, Bool.and_false]
end
theorem sorted_one : ∀ {ys zs : List Int}, ys.Perm zs → ys.Pairwise (· ≤ ·) → zs.Pairwise (· ≤ ·) → ys = zs
  | [], zs, h, _, _ => (List.nil_perm.mp h).symm
  | y :: ys, [], h, _, _ => absurd h.length_eq (by simp)
  | y :: ys, z :: zs, h, a, b => by
    obtain ⟨a1, a2⟩ := List.pairwise_cons.mp a
    obtain ⟨b1, b2⟩ := List.pairwise_cons.mp b
    have h1 : y ≤ z := (List.mem_cons.mp (h.symm.subset (List.mem_cons_self ..))).elim (fun e => e ▸ Int.le_refl _) (a1 z)
    have h2 : z ≤ y := (List.mem_cons.mp (h.subset (List.mem_cons_self ..))).elim (fun e => e ▸ Int.le_refl _) (b1 y)
    have e := Int.le_antisymm h1 h2
    subst e
    rw [sorted_one (List.perm_cons y |>.mp h) a2 b2]
def sortI (ks : List Int) : List Int := ks.mergeSort fun a b => decide (a ≤ b)
theorem sortI_is {ks ys : List Int} (h : ys.Perm ks) (hs : ys.Pairwise (· ≤ ·)) : ys = sortI ks := by
  refine sorted_one (h.trans (List.mergeSort_perm ks _).symm) hs ?_
  refine (List.pairwise_mergeSort (fun a b c h1 h2 => ?_) (fun a b => ?_) ks).imp fun {a b} h => of_decide_eq_true h
  · exact decide_eq_true (Int.le_trans (of_decide_eq_true h1) (of_decide_eq_true h2))
  · rw [Bool.or_eq_true]
    exact (Int.le_total a b).imp decide_eq_true decide_eq_true
theorem max_of : ∀ {ks : List Int}, ks ≠ [] → ∃ m ∈ ks, ∀ y ∈ ks, y ≤ m
  | [], h => absurd rfl h
  | [k], _ => ⟨k, List.mem_cons_self .., fun y hy => by rw [List.mem_singleton.mp hy]; exact Int.le_refl _⟩
  | k :: k' :: ks, _ => by
    obtain ⟨m, h1, h2⟩ := max_of (ks := k' :: ks) (fun z => nomatch z)
    by_cases e : k ≤ m
    · exact ⟨m, List.mem_cons_of_mem _ h1, fun y hy => (List.mem_cons.mp hy).elim (fun z => z ▸ e) (h2 y)⟩
    · exact ⟨k, List.mem_cons_self .., fun y hy => (List.mem_cons.mp hy).elim (fun z => z ▸ Int.le_refl _) fun z => Int.le_trans (h2 y z) (by omega)⟩
/-! ### k07: the law -/
def kinds7 : List (Int × Nat) := [(2, 1), (3, 1), (5, 1), (2, 2), (3, 2), (2, 2), (5, 1), (3, 2)]
def pn7 (c : Int) : Int × Nat := kinds7.getD (c % 8).toNat (2, 1)
theorem kinds7_ok : ∀ q ∈ kinds7, Round q.1 ∧ (1 ≤ q.2 ∧ q.2 ≤ 2) ∧ Few q.1 q.2 ∧ ((howL q.1 q.2 q.2 : Int) = ((fullT q.1 q.2 (allT q.1 q.2)).length : Int) ∧ 1 ≤ (fullT q.1 q.2 (allT q.1 q.2)).length ∧ (fullT q.1 q.2 (allT q.1 q.2)).length ≤ 48) := fun q hq => by
  unfold kinds7 at hq
  simp only [List.mem_cons, List.not_mem_nil, or_false] at hq
  rcases hq with rfl | rfl | rfl | rfl | rfl | rfl | rfl | rfl
  · exact ⟨.inl rfl, by decide, ⟨(fun h => nomatch h), by decide⟩, by decide +kernel⟩
  · exact ⟨.inr (.inl rfl), by decide, ⟨(fun h => nomatch h), by decide⟩, by decide +kernel⟩
  · exact ⟨.inr (.inr (.inl rfl)), by decide, ⟨(fun h => nomatch h), by decide⟩, by decide +kernel⟩
  · exact ⟨.inl rfl, by decide, ⟨(fun h => nomatch h), by decide⟩, by decide +kernel⟩
  · exact ⟨.inr (.inl rfl), by decide, ⟨(fun h => nomatch h), by decide⟩, by decide +kernel⟩
  · exact ⟨.inl rfl, by decide, ⟨(fun h => nomatch h), by decide⟩, by decide +kernel⟩
  · exact ⟨.inr (.inr (.inl rfl)), by decide, ⟨(fun h => nomatch h), by decide⟩, by decide +kernel⟩
  · exact ⟨.inr (.inl rfl), by decide, ⟨(fun h => nomatch h), by decide⟩, by decide +kernel⟩
theorem many_237 : (manyT 2 3 ((7 : Nat) : Int)).length = 48 := by
  rw [many_fast ⟨.inl rfl⟩ (by decide) (by decide) (by decide)]
  decide +kernel
theorem many_5224 : (manyT 5 2 ((24 : Nat) : Int)).length = 80 := by
  rw [many_fast ⟨.inr (.inr (.inl rfl))⟩ (by decide) (by decide) (by decide)]
  decide +kernel
theorem get_of_len {l : List Tb} {k i : Nat} (h : l.length = k) (hi : i < k) : ∃ x, l[i]? = some x := ⟨_, List.getElem?_eq_getElem (by rw [h]; exact hi)⟩
theorem many_ord {p : Int} {n : Nat} (R : Rnd p) (h1 : 1 ≤ n) (h3 : n ≤ 3) {m : Int} {x : Tb} (h : x ∈ manyT p n m) : Tn p n x ∧ rankL p n x = n ∧ ordI p n x = m ∧ firL p n x = 0 := by
  obtain ⟨a, b⟩ := List.mem_filter.mp h
  unfold isOrd at b
  rw [Bool.and_eq_true, decide_eq_true_eq, decide_eq_true_eq] at b
  have W : Tn p n x := ⟨R.h, h1, h3, allT_tab x a⟩
  exact ⟨W, b.1, b.2, full_fir R W b.1⟩
section
variable {M : Md}
def gTimes7 (ds : List D) (t : T) : Prop := ∃ p n A, ds = [.int p, dT A] ∧ Tn p n A ∧ rankL p n A = n ∧ t = tI (perL p n A)
theorem ok_ltimes (B : BI M.mg) (F : FnE M "_law_times" s__law_times P__law_times) (H1 : DefOk M 1 "_law_unit" gLUnit) (H2 : DefOk M 2 "_law_behind" gLBehind) : DefOk M 3 "_law_times" gTimes7 := by
  refine def_okE F c__law_times (fun ds t ⟨p, n, A, h, _⟩ => by rw [h]; rfl) fun X ds t hX ⟨p, n, A, h, W, hr, ht⟩ => ?_
  subst h ht
  have n1 := W.n1
  have n3 := W.n3
  have R : Rnd p := ⟨W.rd⟩
  have P := per_ok R W.tab n1 n3
  have f0 := full_fir R W hr
  have few := P.few
  have h343 := pn_le W.rd n3
  have lt := P.lt
  have e1 : pwL p n A 1 = A := unit_behind R.h.two W.tab
  refine Ss.cons (Sm.par hX 2 3 (.cons (nm hX 1) (.cons Ev.int .nil)) ?_)
  refine Ss.consP (fun ρ => ρ = [some (.sh (.int p)), some (.sh (dT A)), some (.sh (dT (unitL n))), some (tI (perL p n A))])
    (Sm.while hX (fun l ρ => ∃ m, l = perL p n A - m ∧ 1 ≤ m ∧ m ≤ perL p n A ∧ ρ = [some (.sh (.int p)), some (.sh (dT A)), some (.sh (dT (pwL p n A m))), some (tI m)]) ⟨_, 1, rfl, Nat.le_refl 1, by omega, by rw [e1]; rfl⟩ fun l ρ ⟨m, hl, hm1, hm2, hρ⟩ => ?_) fun ρ hρ => ?_
  · subst hρ
    have hm := pw_ok R.h.two W.tab m
    refine ⟨!decide (pwL p n A m = unitL n) && decide ((m : Int) < 500), Tw.te (Tw.and (Te.of (Te.cmp (CmpD.ne hX.room (ok_dT _) (ok_dT (unitL n))) (nmS hX 2) ((Ev.call hX H1 (.cons (e_len hX B.len (nmS hX 1)) .nil) ⟨n, by rw [List.length_map, W.tab.len]; rfl, by omega, rfl⟩).rd.cast (er_tT _))) (by rw [eqb_dT])) fun _ => Tw.and1 (Te.cmp CmpD.lt (nmS hX 3) Ev.int.rd)), fun hc => ?_, fun hc => ?_⟩
    · rw [Bool.and_eq_true, Bool.not_eq_true', decide_eq_false_iff_not] at hc
      have hlt : m < perL p n A := by
        refine Nat.lt_of_le_of_ne hm2 fun e => hc.1 ?_
        rw [e, P.eq, f0]
        rfl
      refine Ss.cons (Sm.par hX 2 3 (.cons (Ev.call hX H2 (.cons (nm hX 0) (.cons (nm hX 2) (.cons (nm hX 1) .nil))) ⟨p, _, A, n, rfl, W.rd, n3, hm, W.tab, rfl⟩) (.cons (Ev.add (nmS hX 3) Ev.int.rd) .nil)) (Ss.frz 2 (d := dT (pwL p n A (m + 1))) (Ss.nil ⟨perL p n A - (m + 1), by omega, m + 1, rfl, by omega, hlt, rfl⟩) rfl (er_tT _)))
    · have e : m = perL p n A := by
        rw [decide_eq_true (show (m : Int) < 500 by omega), Bool.and_true, Bool.not_eq_false', decide_eq_true_eq] at hc
        refine Decidable.byContradiction fun z => ?_
        exact P.unl 0 m (by omega) (by omega) hc.symm
      rw [e, P.eq, f0]
      rfl
  · subst hρ
    refine Ss.cons (Sm.ret (Ev.ifx (p := true) (Te.of (Te.cmp (CmpD.eq hX.room (ok_dT (unitL n)) (ok_dT (unitL n))) (nmS hX 2) ((Ev.call hX H1 (.cons (e_len hX B.len (nmS hX 1)) .nil) ⟨n, by rw [List.length_map, W.tab.len]; rfl, by omega, rfl⟩).rd.cast (er_tT _))) (eqT rfl)) (fun _ => nm hX 3) fun h => nomatch h) rfl)
def gFewR (ds : List D) (t : T) : Prop := ∃ v : Int, ds = [.int v] ∧ t = .sh (.bl true)
theorem ok_few (F : FnE M "_law_few_right" s__law_few_right P__law_few_right) (D2 : DefOk M 5 "of_order" gOfOrder) (D3 : DefOk M 5 "table_by" gTableBy) (D4 : DefOk M 6 "number_of" gNumberOf) (H1 : DefOk M 3 "_law_times" gTimes7) : DefOk M 7 "_law_few_right" gFewR := by
  refine def_okE F c__law_few_right (fun ds t ⟨v, h, _⟩ => by rw [h]; rfl) fun X ds t hX ⟨v, h, ht⟩ => ?_
  subst h ht
  have R2 : Rnd 2 := ⟨.inl rfl⟩
  have R5 : Rnd 5 := ⟨.inr (.inr (.inl rfl))⟩
  refine Ss.cons (Sm.ife (Te.cmp CmpD.eqI (Ev.mod (nmS hX 0) Ev.int.rd (by decide)).rd Ev.int.rd) (fun _ => ?_) fun _ => Ss.nil ?_)
  · obtain ⟨x, hx⟩ : ∃ x, (manyT 2 3 ((7 : Nat) : Int))[47]? = some x := get_of_len many_237 (by decide)
    obtain ⟨W, hr, ho, hf⟩ := many_ord R2 (by decide) (by decide) (List.mem_of_getElem? hx)
    have hp : perL 2 3 x = 7 := by
      unfold ordI at ho
      rw [hf] at ho
      omega
    have o1 : gOfOrder [.int 2, .int 3, .int 7] (tI 48) := ⟨2, 3, ((7 : Nat) : Int), rfl, .inl rfl, by decide, ⟨by decide, by decide⟩, by decide, by rw [many_237]; rfl⟩
    have o2 : gTableBy [.int 2, .int 3, .int 7, .int 47] (.sh (dT x)) := ⟨2, 3, ((7 : Nat) : Int), 47, x, rfl, .inl rfl, by decide, ⟨by decide, by decide⟩, by decide, hx, rfl⟩
    have o3 : gNumberOf [.int 2, dT x] (tI 47) := ⟨2, 3, 47, x, rfl, W, ⟨by decide, by decide⟩, hr, by rw [ho]; exact hx, rfl⟩
    have o4 : gTimes7 [.int 2, dT x] (tI 7) := ⟨2, 3, x, rfl, W, hr, by rw [hp]; rfl⟩
    clear hx
    refine Ss.cons (Sm.set hX 1 (Ev.call hX D3 (.cons Ev.int (.cons Ev.int (.cons Ev.int (.cons Ev.int .nil)))) o2) ?_)
    exact Ss.cons (Sm.ret (Ev.and (Ev.cmp CmpD.eqI (Ev.rd (Ev.call hX D2 (.cons Ev.int (.cons Ev.int (.cons Ev.int .nil))) o1)) Ev.int.rd) fun _ => Ev.and (Ev.cmp CmpD.eqI (Ev.rd (Ev.call hX D4 (.cons Ev.int (.cons (nm hX 1) .nil)) o3)) Ev.int.rd) fun _ => Ev.and1 (Ev.cmp CmpD.eqI (Ev.rd (Ev.call hX H1 (.cons Ev.int (.cons (nm hX 1) .nil)) o4)) Ev.int.rd)) rfl)
  refine Ss.cons (Sm.ife (Te.cmp CmpD.eqI (Ev.mod (nmS hX 0) Ev.int.rd (by decide)).rd Ev.int.rd) (fun _ => ?_) fun _ => Ss.nil ?_)
  · obtain ⟨x, hx⟩ : ∃ x, (manyT 5 2 ((24 : Nat) : Int))[79]? = some x := get_of_len many_5224 (by decide)
    obtain ⟨W, hr, ho, hf⟩ := many_ord R5 (by decide) (by decide) (List.mem_of_getElem? hx)
    have hp : perL 5 2 x = 24 := by
      unfold ordI at ho
      rw [hf] at ho
      omega
    have fw : Few 5 2 := ⟨(fun h => nomatch h), by decide⟩
    have o1 : gOfOrder [.int 5, .int 2, .int 24] (tI 80) := ⟨5, 2, ((24 : Nat) : Int), rfl, .inr (.inr (.inl rfl)), by decide, fw, by decide, by rw [many_5224]; rfl⟩
    have o2 : gTableBy [.int 5, .int 2, .int 24, .int 79] (.sh (dT x)) := ⟨5, 2, ((24 : Nat) : Int), 79, x, rfl, .inr (.inr (.inl rfl)), by decide, fw, by decide, hx, rfl⟩
    have o3 : gNumberOf [.int 5, dT x] (tI 79) := ⟨5, 2, 79, x, rfl, W, fw, hr, by rw [ho]; exact hx, rfl⟩
    have o4 : gTimes7 [.int 5, dT x] (tI 24) := ⟨5, 2, x, rfl, W, hr, by rw [hp]; rfl⟩
    clear hx
    refine Ss.cons (Sm.set hX 1 (Ev.call hX D3 (.cons Ev.int (.cons Ev.int (.cons Ev.int (.cons Ev.int .nil)))) o2) ?_)
    exact Ss.cons (Sm.ret (Ev.and (Ev.cmp CmpD.eqI (Ev.rd (Ev.call hX D2 (.cons Ev.int (.cons Ev.int (.cons Ev.int .nil))) o1)) Ev.int.rd) fun _ => Ev.and (Ev.cmp CmpD.eqI (Ev.rd (Ev.call hX D4 (.cons Ev.int (.cons (nm hX 1) .nil)) o3)) Ev.int.rd) fun _ => Ev.and1 (Ev.cmp CmpD.eqI (Ev.rd (Ev.call hX H1 (.cons Ev.int (.cons (nm hX 1) .nil)) o4)) Ev.int.rd)) rfl)
  exact Ss.cons (Sm.ret Ev.bl rfl)
end
theorem keysG_len {p : Int} {n : Nat} (l : List Tb) : (keysG p n l).length ≤ l.length := by
  induction l using List.reverseRecOn' with
  | nil => exact Nat.le_refl _
  | snoc l t ih =>
    rw [keysG_snoc, List.length_append]
    split
    · exact Nat.le_trans ih (Nat.le_add_right _ _)
    · rw [List.length_append]
      exact Nat.add_le_add_right ih 1
theorem pn7_ok {c : Int} : Round (pn7 c).1 ∧ (1 ≤ (pn7 c).2 ∧ (pn7 c).2 ≤ 2) ∧ Few (pn7 c).1 (pn7 c).2 ∧ ((howL (pn7 c).1 (pn7 c).2 (pn7 c).2 : Int) = ((fullT (pn7 c).1 (pn7 c).2 (allT (pn7 c).1 (pn7 c).2)).length : Int) ∧ 1 ≤ (fullT (pn7 c).1 (pn7 c).2 (allT (pn7 c).1 (pn7 c).2)).length ∧ (fullT (pn7 c).1 (pn7 c).2 (allT (pn7 c).1 (pn7 c).2)).length ≤ 48) := kinds7_ok _ (getD_mem _ (show (c % 8).toNat < 8 by
  have := Int.emod_nonneg c (show (8 : Int) ≠ 0 by decide)
  have := Int.emod_lt_of_pos c (show (0 : Int) < 8 by decide)
  omega))
/-! ### k07: the law's own steps, to the end -/
section
variable {M : Md}
theorem body_law7 (B : BI M.mg) (hmax : M.mg "max" = none) (hsrt : M.mg "sorted" = none) (C1 : DefOk M 1 "_law_cell_at" gCell) (C2 : DefOk M 2 "_law_value" gValue) (C3 : DefOk M 1 "_law_rows" gAllRows) (C4 : DefOk M 3 "_law_rank" gRank) (C5 : DefOk M 3 "_law_times" gTimes7) (C6 : DefOk M 1 "_law_whole" gWhole) (C7 : DefOk M 3 "_law_is_table" gLIsTable) (C8 : DefOk M 1 "_law_copy" gCopy) (C9 : DefOk M 7 "_law_few_right" gFewR)
    (D1 : DefOk M 4 "how_many" gHow) (D2 : DefOk M 5 "of_order" gOfOrder) (D3 : DefOk M 5 "table_by" gTableBy) (D4 : DefOk M 6 "number_of" gNumberOf) {f : Addr} {fd : FuncData} (F : Fun M.K "law" "law" s_law f fd) : FnG M.P M.w M.K M.mg M.base CX0 8 f fd ["_law_script"] (spL 63 M.K) := by
  refine law_fn (m := 63) F c_law rfl rfl (by decide +kernel) (by decide +kernel) (by decide) fun X ns hl hX => ?_
  refine Ss.cons (Sm.set hX 1 (Ev.call hX C2 (.cons (Ev.call hX C1 (.cons (nm hX 0) (.cons Ev.int .nil)) ⟨ns, 0, rfl, rfl⟩) (.cons Ev.int .nil)) ⟨_, _, rfl, by decide, rfl⟩) ?_)
  have hv := (valueL_ok (ns.getD 0 0) 3).1
  generalize valueL (ns.getD 0 0) 3 = v at hv
  obtain ⟨hp, hn, hf, hh, hl1, hl48⟩ := pn7_ok (c := v)
  refine Ss.cons (Sm.unp (tgt := .tup [2, 3]) (d := .tup [.int (pn7 v).1, .int (pn7 v).2]) (Ev.ixT (Ev.tup (.cons (Ev.tupI (ns := [2, 1])) (.cons (Ev.tupI (ns := [3, 1])) (.cons (Ev.tupI (ns := [5, 1])) (.cons (Ev.tupI (ns := [2, 2])) (.cons (Ev.tupI (ns := [3, 2])) (.cons (Ev.tupI (ns := [2, 2])) (.cons (Ev.tupI (ns := [5, 1])) (.cons (Ev.tupI (ns := [3, 2])) .nil)))))))))
    (Ev.mod (nmS hX 1) Ev.int.rd (by decide)).rd ?_) (hX.pg2 2 3 rfl (by decide +kernel) rfl (by decide +kernel) rfl) rfl ?_ (fun i hi => by
    simp only [Tg.is, List.mem_cons, List.not_mem_nil, or_false] at hi
    rcases hi with rfl | rfl <;> rfl))
  · have h0 := Int.emod_nonneg v (show (8 : Int) ≠ 0 by decide)
    have h8 := Int.emod_lt_of_pos v (show (0 : Int) < 8 by decide)
    have e := atI_nat (xs := kinds7.map fun q => D.tup [.int q.1, .int q.2]) (j := (v % 8).toNat) (v := .tup [.int (pn7 v).1, .int (pn7 v).2]) (by
      rw [List.getElem?_map, getD_some (show (v % 8).toNat < kinds7.length by show _ < 8; omega) (2, 1)]
      rfl)
    rw [Int.toNat_of_nonneg h0] at e
    exact e
  generalize (pn7 v).1 = p at *
  generalize (pn7 v).2 = n at *
  show Ss X [some (.sh (dR ns)), some (.sh (.int v)), some (.sh (.int p)), some (tI n), none, none, none, none, none, none, none, none, none, none] _ _
  have n3 : n ≤ 3 := by omega
  have R : Rnd p := ⟨hp⟩
  have hpw := few_pow hp hn.1 n3 hf
  have hn9 : n * n ≤ 4 := Nat.mul_le_mul hn.2 hn.2
  refine Ss.cons (Sm.set hX 4 Ev.dic0 ?_)
  refine Ss.consP (fun ρ => ρ = [some (.sh (dR ns)), some (.sh (.int v)), some (.sh (.int p)), some (tI n), some (.dic (dicG p n (fullT p n (allT p n)))), none, none, none, none, none, none, none, none, none])
    (Sm.forN (xs := rowsP p (n * n)) (en := dR) (fun j ρ => ρ = [some (.sh (dR ns)), some (.sh (.int v)), some (.sh (.int p)), some (tI n), some (.dic (dicG p n (fullT p n (((rowsP p (n * n)).take j).map (chunkT n))))), none, none, none, none, none, none, none, none, none]) hX 5
      (ItF.list (Ev.call hX C3 (.cons (nm hX 2) (.cons ((Ev.mul (nmS hX 3) (nmS hX 3) (.inl (by omega))).cast (t' := tI ((n * n : Nat) : Int)) (by rw [Int.natCast_mul])) .nil)) ⟨p, n * n, rfl, hp, by omega, few_pow' hp hn.1 n3 hf, rfl⟩)) rfl (fun j ρ h => by rw [h]; rfl) (fun j flat ρ hj hI => ?_) fun ρ h => by rw [List.take_length] at h; exact h) fun ρ hρ => ?_
  · subst hI
    have lo := rowsP_mem.mp (List.mem_of_getElem? hj)
    have co := chunk_ok lo
    have W : Tn p n (chunkT n flat) := ⟨hp, hn.1, n3, co.1⟩
    refine Ss.cons (Sm.lcN (xs := List.range n) (en := fun (i : Nat) => D.int i) (g := fun i => tR ((flat.drop (i * n)).take n)) hX 6 7 (itRange hX B.range (nmS hX 3) (by omega)).c (fun X' b hX' i hi => (Ev.cutLH (ds := flat.map D.int) (i := ((i * n : Nat) : Int)) (j := ((i * n + n : Nat) : Int)) (Ev.lsS (nm hX' 5)) ((Ev.mul (nmS hX' 7) (nmS hX' 3) (.inl (by have := List.mem_range.mp hi; omega))).rd.cast (by rw [Int.natCast_mul]; rfl)) ((Ev.add (Ev.rdI (Ev.mul (nmS hX' 7) (nmS hX' 3) (.inl (by have := List.mem_range.mp hi; omega)))) (nmS hX' 3)).rd.cast (by rw [Int.natCast_add, Int.natCast_mul]; rfl))).cast (by
        have hi' := List.mem_range.mp hi
        have := Nat.mul_le_mul_right n (show i + 1 ≤ n from hi')
        rw [Nat.succ_mul] at this
        rw [cutD_map, cutN_mid _ (by rw [lo.len]; exact this)]
        show T.lst _ = T.lst _
        rw [List.map_map]
        rfl)) (sz (by rw [List.length_range]; omega)) (Ss.frz 6 (d := dT (chunkT n flat)) ?_ rfl (by
        show D.lst _ = D.lst _
        rw [ers_mapG _ (fun i => dR ((flat.drop (i * n)).take n)) fun i => er_tR _]
        unfold chunkT
        rw [List.map_map]
        rfl)))
    have e1 : ((rowsP p (n * n)).take (j + 1)).map (chunkT n) = ((rowsP p (n * n)).take j).map (chunkT n) ++ [chunkT n flat] := by
      rw [List.take_add_one, hj, List.map_append]
      rfl
    have sl : (fullT p n (((rowsP p (n * n)).take j).map (chunkT n))).length ≤ 700 := by
      unfold fullT
      refine Nat.le_trans (List.length_filter_le _ _) ?_
      rw [List.length_map, List.length_take, rowsP_len]
      omega
    have e2 : fullT p n (((rowsP p (n * n)).take j).map (chunkT n) ++ [chunkT n flat]) = fullT p n (((rowsP p (n * n)).take j).map (chunkT n)) ++ if rankL p n (chunkT n flat) = n then [chunkT n flat] else [] := by
      unfold fullT
      rw [List.filter_append]
      congr 1
      by_cases e : rankL p n (chunkT n flat) = n
      · rw [if_pos e]
        exact List.filter_cons_of_pos (p := fun t => decide (rankL p n t = n)) (decide_eq_true e)
      · rw [if_neg e]
        exact List.filter_cons_of_neg (p := fun t => decide (rankL p n t = n)) (by rw [decide_eq_false e]; exact Bool.false_ne_true)
    rw [e1, e2]
    generalize fullT p n (((rowsP p (n * n)).take j).map (chunkT n)) = L at sl
    generalize chunkT n flat = tb at W
    refine Ss.cons (Sm.ife (q := decide (rankL p n tb = n)) (Te.of (Te.cmp CmpD.eqI (Ev.rdI (Ev.call hX C4 (.cons (nm hX 2) (.cons (nm hX 6) (.cons (nm hX 3) .nil))) ⟨p, tb, n, rfl, hp, n3, by rw [W.tab.len]; exact n3, W.tab.rows, rfl⟩)) (nmS hX 3)) ?_) (fun hq => ?_) fun hq => Ss.nil (Ss.drop 5 (Ss.drop 6 (Ss.nil ?_))))
    · by_cases e : rankL p n tb = n
      · rw [decide_eq_true e, decide_eq_true (by omega)]
      · rw [decide_eq_false e, decide_eq_false (by omega)]
    · have hr := of_decide_eq_true hq
      rw [if_pos hr]
      refine Ss.cons (Sm.set hX 8 (Ev.call hX C5 (.cons (nm hX 2) (.cons (nm hX 6) .nil)) ⟨p, n, tb, rfl, W, hr, rfl⟩) ?_)
      have al : (atG p n L (perL p n tb : Int)).length ≤ 700 := Nat.le_trans (List.length_filter_le _ _) sl
      have kl : (dicG p n L).length ≤ 700 := by
        unfold dicG
        rw [List.length_map]
        exact Nat.le_trans (keysG_len L) sl
      refine Ss.cons (Sm.dset (ds := dicG p n L) hX 4 (e_cat (f := dT) (xs := atG p n L (perL p n tb : Int)) (ys := [tb]) (Ev.lsS (castE (Ev.dget2 (dz := dTs []) hX 4 (nmS hX 8) (fzE (Ev.list .nil) rfl)) (by rw [dicG_get]))) (Ev.lsS (fzE (d := dTs [tb]) (Ev.list (.cons (nm hX 6) .nil)) rfl)) (by show _ + 1 ≤ 10000; omega)) (nmS hX 8) (by omega) (Ss.nil (Ss.drop 5 (Ss.drop 6 (Ss.drop 8 (Ss.nil ?_))))))
      rw [← dicG_put]
      rfl
    · rw [if_neg (of_decide_eq_false hq), List.append_nil]
      rfl
  · subst hρ
    have hmany := fun m => many_at R hn.1 n3 m
    have hmem : ∀ k ∈ keysG p n (fullT p n (allT p n)), 1 ≤ k := fun k hk => by
      obtain ⟨t, ht, e⟩ := (keysG_mem _ k).mp hk
      have tab := allT_tab t (List.mem_filter.mp ht).1
      have P := per_ok R tab hn.1 n3
      have := P.lt
      omega
    have klen : (keysG p n (fullT p n (allT p n))).length ≤ 48 := Nat.le_trans (keysG_len _) hl48
    have kne : keysG p n (fullT p n (allT p n)) ≠ [] := fun z => by
      obtain ⟨t, ht⟩ := List.exists_mem_of_length_pos (show 0 < (fullT p n (allT p n)).length by omega)
      have := (keysG_mem (p := p) (n := n) _ (perL p n t)).mpr ⟨t, ht, rfl⟩
      rw [z] at this
      cases this
    have hsum := sum_at (p := p) (n := n) (fullT p n (allT p n))
    have hatl : ∀ m, (atG p n (fullT p n (allT p n)) m).length ≤ 48 := fun m => Nat.le_trans (List.length_filter_le _ _) hl48
    generalize fullT p n (allT p n) = L at *
    refine Ss.cons (Sm.set hX 9 (Ev.call hX D1 (.cons (nm hX 2) (.cons (nm hX 3) .nil)) ⟨p, n, rfl, hp, ⟨hn.1, n3⟩, rfl⟩) ?_)
    have dk : (dicG p n L).map (fun kv => keyD kv.1) = (keysG p n L).map fun (k : Nat) => D.int k := by
      unfold dicG
      rw [List.map_map]
      rfl
    have dk2 : (dicG p n L).map (·.1) = ((keysG p n L).map fun (k : Nat) => (k : Int)).map Sum.inl := by
      unfold dicG
      rw [List.map_map, List.map_map]
      rfl
    refine Ss.cons (Sm.ife (q := false) (Tw.te (Tw.or (p := false) (q := false) (Te.of (Te.not (Te.val (Ev.call hX C6 (.cons (nm hX 9) .nil) ⟨_, rfl, rfl⟩))) rfl) fun _ => Tw.or1 (Te.of (Te.cmp CmpD.neI (nmS hX 9) (e_sumC (xs := keysG p n L) (f := fun (k : Nat) => ((atG p n L k).length : Int)) hX B.sum ?_).rd) ?_))) (fun h => nomatch h) fun _ => Ss.nil ?_)
    · refine Ev.lockD (ds := dicG p n L) 4 (lcN (xs := keysG p n L) (en := fun (k : Nat) => D.int k) (g := fun (k : Nat) => tI (atG p n L k).length) hX 8 (dk ▸ ItC.dicL (nmS hX 4)) (fun X' b hX' k hk => (e_len hX' B.len (Rd.dgetL hX' (nmS hX' 4) (nmS hX' 8) (dicG_val hk))).cast (by rw [List.length_map])) (sz (by omega))) (own_map (f := fun (k : Nat) => tI (atG p n L k).length) (fun k => .sh trivial) _)
    · have e : ((keysG p n L).map fun (k : Nat) => ((atG p n L k).length : Int)).sum = (L.length : Int) := by
        rw [← hsum]
        generalize keysG p n L = ks
        induction ks with
        | nil => rfl
        | cons k ks ih =>
          rw [List.map_cons, List.map_cons, List.sum_cons, List.sum_cons, ih]
          omega
      rw [e, hh, decide_eq_true rfl]
      rfl
    obtain ⟨M0, hM1, hM2⟩ := max_of (ks := (keysG p n L).map fun (k : Nat) => (k : Int)) (fun z => kne (List.map_eq_nil_iff.mp z))
    have sI : ∀ m ∈ sortI ((keysG p n L).map fun (k : Nat) => (k : Int)), 1 ≤ m := fun m hm => by
      have := List.mem_mergeSort.mp hm
      obtain ⟨k, hk, rfl⟩ := List.mem_map.mp this
      have := hmem k hk
      omega
    have sIl : (sortI ((keysG p n L).map fun (k : Nat) => (k : Int))).length ≤ 48 := by
      unfold sortI
      rw [List.length_mergeSort, List.length_map]
      exact klen
    have hM : 1 ≤ M0 := by
      obtain ⟨k, hk, rfl⟩ := List.mem_map.mp hM1
      have := hmem k hk
      omega
    refine Ss.consP (fun ρ => ∃ o9, ρ = [some (.sh (dR ns)), some (.sh (.int v)), some (.sh (.int p)), some (tI n), some (.dic (dicG p n L)), none, none, none, none, o9, none, none, none, none])
      (Sm.forN (xs := sortI ((keysG p n L).map fun (k : Nat) => (k : Int)) ++ [M0 + 1]) (en := D.int) (fun j ρ => ∃ x9, ρ = [some (.sh (dR ns)), some (.sh (.int v)), some (.sh (.int p)), some (tI n), some (.dic (dicG p n L)), none, none, none, none, some (.sh x9), none, none, none, none]) hX 8
        (ItF.list (e_cat (f := D.int) (xs := sortI ((keysG p n L).map fun (k : Nat) => (k : Int))) (ys := [M0 + 1]) (Ev.lsQ (e_sortedD hX hsrt 4 dk2 (by rw [List.length_map]; omega) (fun ys h1 h2 => sortI_is h1 h2)) (ers_mapG _ D.int (fun _ => rfl) _)) (Ev.lsQ (Ev.list (.cons (Ev.add (e_maxD hX hmax 4 dk2 hM1 hM2).rd Ev.int.rd) .nil)) rfl) (by show _ + 1 ≤ 10000; omega))) ⟨_, rfl⟩ (fun j ρ ⟨_, h⟩ => by rw [h]; rfl) (fun j m ρ hj hI => ?_) fun ρ ⟨_, h⟩ => ⟨_, h⟩) fun ρ ⟨o9, hρ⟩ => ?_
    · obtain ⟨x9, hI⟩ := hI
      subst hI
      have hm : 1 ≤ m := by
        rcases List.mem_append.mp (List.mem_of_getElem? hj) with z | z
        · exact sI m z
        · rw [List.mem_singleton.mp z]
          omega
      have em := hmany m
      have el := hatl m
      refine Ss.cons (Sm.set hX 10 (t := .sh (dTs (manyT p n m))) (castE (Ev.dget2 (dz := dTs []) hX 4 (nmS hX 8) (fzE (Ev.list .nil) rfl)) (by rw [dicG_get, em])) ?_)
      rw [← em] at el
      refine Ss.cons (Sm.set hX 9 (Ev.call hX D2 (.cons (nm hX 2) (.cons (nm hX 3) (.cons (nm hX 8) .nil))) ⟨p, n, m, rfl, hp, ⟨hn.1, n3⟩, hf, hm, rfl⟩) ?_)
      refine Ss.cons (Sm.ife (q := false) (Tw.te (Tw.or (p := false) (q := false) (Te.of (Te.not (Te.val (Ev.call hX C6 (.cons (nm hX 9) .nil) ⟨_, rfl, rfl⟩))) rfl) fun _ => Tw.or1 (Te.of (Te.cmp CmpD.neI (nmS hX 9) (e_len hX B.len (nmS hX 10)).rd) (by rw [List.length_map, decide_eq_true rfl]; rfl)))) (fun h => nomatch h) fun _ => Ss.nil ?_)
      have key := fun x => many_ord (x := x) R hn.1 n3 (m := m)
      generalize hmt : manyT p n m = due at el key
      refine Ss.consP (fun ρ => ∃ x9 o6 o10 o11 o12 o13, ρ = [some (.sh (dR ns)), some (.sh (.int v)), some (.sh (.int p)), some (tI n), some (.dic (dicG p n L)), none, o6, none, some (.sh (.int m)), some (.sh x9), o10, o11, o12, o13]) (Sm.ife (q := !decide (due = [])) (Te.of (Te.cmp (CmpD.ne hX.room (ok_dTs _) (ok_dTs [])) (nmS hX 10) (fzE (d := dTs []) (Ev.list .nil) rfl).rd) (by rw [eqb_dTs])) (fun hq => ?_) fun hq => Ss.nil ⟨_, _, _, _, _, _, rfl⟩) fun ρ ⟨x9, o6, o10, o11, o12, o13, hρ⟩ => ?_
      · rw [Bool.not_eq_true', decide_eq_false_iff_not] at hq
        have dl : 0 < due.length := List.length_pos_iff.mpr hq
        have i0 : 0 ≤ v / 8 % (due.length : Int) := Int.emod_nonneg _ (by omega)
        have i1 : v / 8 % (due.length : Int) < (due.length : Int) := Int.emod_lt_of_pos _ (by omega)
        obtain ⟨i, hi⟩ : ∃ i : Nat, v / 8 % (due.length : Int) = (i : Int) := ⟨_, (Int.toNat_of_nonneg i0).symm⟩
        obtain ⟨x, hx⟩ : ∃ x, due[i]? = some x := ⟨_, List.getElem?_eq_getElem (by omega)⟩
        obtain ⟨W, hr, ho, _⟩ := key x (List.mem_of_getElem? hx)
        have tl := W.tab.len
        refine Ss.cons (Sm.set hX 11 (t := tI i) ((Ev.mod (Ev.fdiv (nmS hX 1) Ev.int.rd ⟨by decide, by decide⟩).rd ((e_len hX B.len (nmS hX 10)).rd.cast (by rw [List.length_map]; rfl)) (by omega)).cast (by rw [hi])) ?_)
        have ax : atI (due.map dT) (i : Int) = some (dT x) := atI_nat (by rw [List.getElem?_map, hx]; rfl)
        refine Ss.cons (Sm.par hX 6 12 (.cons (Ev.call hX D3 (.cons (nm hX 2) (.cons (nm hX 3) (.cons (nm hX 8) (.cons (nm hX 11) .nil)))) ⟨p, n, m, i, x, rfl, hp, ⟨hn.1, n3⟩, hf, hm, by rw [hmt]; exact hx, rfl⟩) (.cons (Ev.call hX C8 (.cons (Ev.ix (nm hX 10) (nmS hX 11) ax) .nil) ⟨x, rfl, by omega, rfl⟩) .nil)) (Ss.frz 12 (d := dT x) ?_ rfl (er_tT _)))
        refine Ss.cons (Sm.ife (q := false) (Te.of (Tw.te (Tw.or (Te.not (Te.val (Ev.call hX C7 (.cons (nm hX 2) (.cons (nm hX 6) (.cons (nm hX 3) .nil))) ⟨p, x, n, rfl, by omega, fun r hr => by rw [(W.tab.row r hr).1]; omega, rfl⟩))) fun _ => Tw.or1 (Te.cmp (CmpD.ne hX.room (ok_dT x) (ok_dT x)) (nmS hX 6) (Rd.ix (nmS hX 10) (nmS hX 11) ax)))) (by rw [ltab W.tab, eqT rfl]; rfl)) (fun h => nomatch h) fun _ => Ss.nil ?_)
        refine Ss.cons (Sm.set hX 13 (Ev.call hX D4 (.cons (nm hX 2) (.cons (nm hX 12) .nil)) ⟨p, n, i, x, rfl, W, hf, hr, by rw [ho, hmt]; exact hx, rfl⟩) ?_)
        exact Ss.cons (Sm.ife (q := false) (Te.of (Tw.te (Tw.or (Te.not (Te.val (Ev.call hX C6 (.cons (nm hX 13) .nil) ⟨_, rfl, rfl⟩))) fun _ => Tw.or (Te.cmp CmpD.neI (nmS hX 13) (nmS hX 11)) fun _ => Tw.or1 (Te.cmp (CmpD.ne hX.room (ok_dT x) (ok_dT x)) (nmS hX 12) (Rd.ix (nmS hX 10) (nmS hX 11) ax)))) (by rw [eqT rfl, decide_eq_true rfl]; rfl)) (fun h => nomatch h) fun _ => Ss.nil (Ss.nil ⟨_, _, _, _, _, _, rfl⟩))
      · subst hρ
        exact Ss.drop 6 (Ss.drop 8 (Ss.drop 10 (Ss.drop 11 (Ss.drop 12 (Ss.drop 13 (Ss.nil ⟨_, rfl⟩))))))
    · subst hρ
      have q3 : Round 2 := .inl rfl
      have q7 : Round 7 := .inr (.inr (.inr rfl))
      have h1 : gHow [.int 2, .int 3] (tI 168) := ⟨2, 3, rfl, .inl rfl, by decide, rfl⟩
      have h2 : gHow [.int 3, .int 2] (tI 48) := ⟨3, 2, rfl, .inr (.inl rfl), by decide, rfl⟩
      have h3 : gHow [.int 7, .int 3] (tI 33784128) := ⟨7, 3, rfl, .inr (.inr (.inr rfl)), by decide, rfl⟩
      have h4 : gHow [.int 5, .int 1] (tI 4) := ⟨5, 1, rfl, .inr (.inr (.inl rfl)), by decide, rfl⟩
      have m1 : (manyT 2 2 ((3 : Nat) : Int)).length = 2 := by
        rw [many_fast ⟨.inl rfl⟩ (by decide) (by decide) (by decide)]
        decide +kernel
      have m2 : (manyT 2 2 ((1 : Nat) : Int))[0]? = some [[1, 0], [0, 1]] := by
        rw [many_fast ⟨.inl rfl⟩ (by decide) (by decide) (by decide)]
        decide +kernel
      have m3 : (manyT 2 1 100000000000000000000).length = 0 := by decide +kernel
      have fw : Few 2 2 := ⟨fun _ => by decide, by decide⟩
      have fw1 : Few 2 1 := ⟨fun _ => by decide, by decide⟩
      have o1 : gOfOrder [.int 2, .int 2, .int 3] (tI 2) := ⟨2, 2, ((3 : Nat) : Int), rfl, .inl rfl, by decide, fw, by decide, by rw [m1]; rfl⟩
      have o2 : gTableBy [.int 2, .int 2, .int 1, .int 0] (.sh (dT [[1, 0], [0, 1]])) := ⟨2, 2, ((1 : Nat) : Int), 0, _, rfl, .inl rfl, by decide, fw, by decide, m2, rfl⟩
      have o3 : gOfOrder [.int 2, .int 1, .int 100000000000000000000] (tI 0) := ⟨2, 1, 100000000000000000000, rfl, .inl rfl, by decide, fw1, by decide, by rw [m3]; rfl⟩
      clear m1 m2 m3
      refine Ss.cons (Sm.ife (q := false) (Te.of (Te.cmp (CmpD.ne hX.room (ok_dR [168, 48, 33784128, 4]) (ok_dR [168, 48, 33784128, 4])) (Rd.cast (Ev.rd (Ev.list (.cons (Ev.call hX D1 (.cons Ev.int (.cons Ev.int .nil)) h1) (.cons (Ev.call hX D1 (.cons Ev.int (.cons Ev.int .nil)) h2) (.cons (Ev.call hX D1 (.cons Ev.int (.cons Ev.int .nil)) h3) (.cons (Ev.call hX D1 (.cons Ev.int (.cons Ev.int .nil)) h4) .nil)))))) rfl) (e_rowI (r := [168, 48, 33784128, 4])).rd) (by rw [eqR rfl]; rfl)) (fun h => nomatch h) fun _ => Ss.nil ?_)
      refine Ss.cons (Sm.ife (q := false) (Te.of (Te.not (Te.val (Ev.call hX C9 (.cons (Ev.fdiv (nmS hX 1) Ev.int.rd ⟨by decide, by decide⟩) .nil) ⟨_, rfl, rfl⟩))) rfl) (fun h => nomatch h) fun _ => Ss.nil ?_)
      refine Ss.cons (Sm.ret (Ev.and (Ev.cmp CmpD.eqI (Ev.rd (Ev.call hX D2 (.cons Ev.int (.cons Ev.int (.cons Ev.int .nil))) o1)) Ev.int.rd) fun _ => Ev.and (Ev.cmp (CmpD.eq hX.room (ok_dT [[1, 0], [0, 1]]) (ok_dT [[1, 0], [0, 1]])) (Ev.rd (Ev.call hX D3 (.cons Ev.int (.cons Ev.int (.cons Ev.int (.cons Ev.int .nil)))) o2)) (e_tabI (t := [[1, 0], [0, 1]]) (.cons Ev.listI (.cons Ev.listI .nil))).rd) fun _ => Ev.and1 (Ev.cmp CmpD.eqI (Ev.rd (Ev.call hX D2 (.cons Ev.int (.cons Ev.int (.cons ((Ev.pow Ev.int.rd Ev.int.rd ⟨by decide, by decide, by decide⟩).cast (t' := tI 100000000000000000000) rfl) .nil))) o3)) Ev.int.rd)) ?_)
      rw [eqT rfl]
      rfl
end
/-! ### what the top has written -/
theorem FnE.mk {M : Md} {h : Heap} {x : Str} {st : Stmt} {ps : List Str} {f : Addr} {od an : Option Addr} {sl : Array (Option Value)} {oc kV dc pm cd ct : Value} (X : M.K.In h) (G : h.Ns mainGlobals M.mg) (a : PySem.W.nsIn M.K mainGlobals x = some (some (.ref f)))
    (l : M.K.lookup f = some ⟨oc, od, .func (PySem.W.fnOf x x (defArgs st) (defBody st) (defScope st) .none kV dc pm an cd ct), sl⟩) (c : PySem.W.codeIn M.K cd x = true) (k : PySem.W.keepIn M.K (.ref f) = true)
    (b : ∀ (kV doc pm : Value) (an : Option Addr) (cdv ct : Value) (us : List Value), us.length = ps.length → bindArgs (PySem.W.fnOf x x (defArgs st) (defBody st) (defScope st) .none kV doc pm an cdv ct) ⟨us, []⟩ = pure (ps.zip us)) : FnE M x st ps :=
  ⟨f, _, fun_mk l c k, PySem.W.mg_of X G a, (fun_mk l c k).binds b⟩
set_option maxHeartbeats 0 in
theorem all_mk {w : World} {K : PySem.W.Frag} {h : Heap} {mg : Str → Option Value} {fa : Addr} (P : Program) (X : K.In h) (G : h.Ns mainGlobals mg) (hfa : mg "law" = some (.ref fa))
    {f0 f1 f2 f3 f4 f5 f6 f7 f8 f9 f10 f11 f12 f13 f14 f15 f16 f17 f18 f19 f20 f21 f22 f23 f24 f25 f26 f27 f28 f29 f30 f31 f32 f33 f34 f35 f36 f37 f38 f39 : Addr} {od0 od1 od2 od3 od4 od5 od6 od7 od8 od9 od10 od11 od12 od13 od14 od15 od16 od17 od18 od19 od20 od21 od22 od23 od24 od25 od26 od27 od28 od29 od30 od31 od32 od33 od34 od35 od36 od37 od38 od39 an0 an1 an2 an3 an4 an5 an6 an7 an8 an9 an10 an11 an12 an13 an14 an15 an16 an17 an18 an19 an20 an21 an22 an23 an24 an25 an26 an27 an28 an29 an30 an31 an32 an33 an34 an35 an36 an37 an38 an39 : Option Addr} {sl0 sl1 sl2 sl3 sl4 sl5 sl6 sl7 sl8 sl9 sl10 sl11 sl12 sl13 sl14 sl15 sl16 sl17 sl18 sl19 sl20 sl21 sl22 sl23 sl24 sl25 sl26 sl27 sl28 sl29 sl30 sl31 sl32 sl33 sl34 sl35 sl36 sl37 sl38 sl39 : Array (Option Value)}
    {oc0 oc1 oc2 oc3 oc4 oc5 oc6 oc7 oc8 oc9 oc10 oc11 oc12 oc13 oc14 oc15 oc16 oc17 oc18 oc19 oc20 oc21 oc22 oc23 oc24 oc25 oc26 oc27 oc28 oc29 oc30 oc31 oc32 oc33 oc34 oc35 oc36 oc37 oc38 oc39 kV0 kV1 kV2 kV3 kV4 kV5 kV6 kV7 kV8 kV9 kV10 kV11 kV12 kV13 kV14 kV15 kV16 kV17 kV18 kV19 kV20 kV21 kV22 kV23 kV24 kV25 kV26 kV27 kV28 kV29 kV30 kV31 kV32 kV33 kV34 kV35 kV36 kV37 kV38 kV39 dc0 dc1 dc2 dc3 dc4 dc5 dc6 dc7 dc8 dc9 dc10 dc11 dc12 dc13 dc14 dc15 dc16 dc17 dc18 dc19 dc20 dc21 dc22 dc23 dc24 dc25 dc26 dc27 dc28 dc29 dc30 dc31 dc32 dc33 dc34 dc35 dc36 dc37 dc38 dc39 pm0 pm1 pm2 pm3 pm4 pm5 pm6 pm7 pm8 pm9 pm10 pm11 pm12 pm13 pm14 pm15 pm16 pm17 pm18 pm19 pm20 pm21 pm22 pm23 pm24 pm25 pm26 pm27 pm28 pm29 pm30 pm31 pm32 pm33 pm34 pm35 pm36 pm37 pm38 pm39 cd0 cd1 cd2 cd3 cd4 cd5 cd6 cd7 cd8 cd9 cd10 cd11 cd12 cd13 cd14 cd15 cd16 cd17 cd18 cd19 cd20 cd21 cd22 cd23 cd24 cd25 cd26 cd27 cd28 cd29 cd30 cd31 cd32 cd33 cd34 cd35 cd36 cd37 cd38 cd39 ct0 ct1 ct2 ct3 ct4 ct5 ct6 ct7 ct8 ct9 ct10 ct11 ct12 ct13 ct14 ct15 ct16 ct17 ct18 ct19 ct20 ct21 ct22 ct23 ct24 ct25 ct26 ct27 ct28 ct29 ct30 ct31 ct32 ct33 ct34 ct35 ct36 ct37 ct38 ct39 : Value}
    (a0 : PySem.W.nsIn K mainGlobals "back_of" = some (some (.ref f0))) (l0 : K.lookup f0 = some ⟨oc0, od0, .func (PySem.W.fnOf "back_of" "back_of" (defArgs s_back_of) (defBody s_back_of) (defScope s_back_of) .none kV0 dc0 pm0 an0 cd0 ct0), sl0⟩) (c0 : PySem.W.codeIn K cd0 "back_of" = true) (k0 : PySem.W.keepIn K (.ref f0) = true)
    (a1 : PySem.W.nsIn K mainGlobals "less_of" = some (some (.ref f1))) (l1 : K.lookup f1 = some ⟨oc1, od1, .func (PySem.W.fnOf "less_of" "less_of" (defArgs s_less_of) (defBody s_less_of) (defScope s_less_of) .none kV1 dc1 pm1 an1 cd1 ct1), sl1⟩) (c1 : PySem.W.codeIn K cd1 "less_of" = true) (k1 : PySem.W.keepIn K (.ref f1) = true)
    (a2 : PySem.W.nsIn K mainGlobals "cleared" = some (some (.ref f2))) (l2 : K.lookup f2 = some ⟨oc2, od2, .func (PySem.W.fnOf "cleared" "cleared" (defArgs s_cleared) (defBody s_cleared) (defScope s_cleared) .none kV2 dc2 pm2 an2 cd2 ct2), sl2⟩) (c2 : PySem.W.codeIn K cd2 "cleared" = true) (k2 : PySem.W.keepIn K (.ref f2) = true)
    (a3 : PySem.W.nsIn K mainGlobals "rank_of" = some (some (.ref f3))) (l3 : K.lookup f3 = some ⟨oc3, od3, .func (PySem.W.fnOf "rank_of" "rank_of" (defArgs s_rank_of) (defBody s_rank_of) (defScope s_rank_of) .none kV3 dc3 pm3 an3 cd3 ct3), sl3⟩) (c3 : PySem.W.codeIn K cd3 "rank_of" = true) (k3 : PySem.W.keepIn K (.ref f3) = true)
    (a4 : PySem.W.nsIn K mainGlobals "is_whole" = some (some (.ref f4))) (l4 : K.lookup f4 = some ⟨oc4, od4, .func (PySem.W.fnOf "is_whole" "is_whole" (defArgs s_is_whole) (defBody s_is_whole) (defScope s_is_whole) .none kV4 dc4 pm4 an4 cd4 ct4), sl4⟩) (c4 : PySem.W.codeIn K cd4 "is_whole" = true) (k4 : PySem.W.keepIn K (.ref f4) = true)
    (a5 : PySem.W.nsIn K mainGlobals "check_round" = some (some (.ref f5))) (l5 : K.lookup f5 = some ⟨oc5, od5, .func (PySem.W.fnOf "check_round" "check_round" (defArgs s_check_round) (defBody s_check_round) (defScope s_check_round) .none kV5 dc5 pm5 an5 cd5 ct5), sl5⟩) (c5 : PySem.W.codeIn K cd5 "check_round" = true) (k5 : PySem.W.keepIn K (.ref f5) = true)
    (a6 : PySem.W.nsIn K mainGlobals "is_row" = some (some (.ref f6))) (l6 : K.lookup f6 = some ⟨oc6, od6, .func (PySem.W.fnOf "is_row" "is_row" (defArgs s_is_row) (defBody s_is_row) (defScope s_is_row) .none kV6 dc6 pm6 an6 cd6 ct6), sl6⟩) (c6 : PySem.W.codeIn K cd6 "is_row" = true) (k6 : PySem.W.keepIn K (.ref f6) = true)
    (a7 : PySem.W.nsIn K mainGlobals "is_table" = some (some (.ref f7))) (l7 : K.lookup f7 = some ⟨oc7, od7, .func (PySem.W.fnOf "is_table" "is_table" (defArgs s_is_table) (defBody s_is_table) (defScope s_is_table) .none kV7 dc7 pm7 an7 cd7 ct7), sl7⟩) (c7 : PySem.W.codeIn K cd7 "is_table" = true) (k7 : PySem.W.keepIn K (.ref f7) = true)
    (a8 : PySem.W.nsIn K mainGlobals "check_table" = some (some (.ref f8))) (l8 : K.lookup f8 = some ⟨oc8, od8, .func (PySem.W.fnOf "check_table" "check_table" (defArgs s_check_table) (defBody s_check_table) (defScope s_check_table) .none kV8 dc8 pm8 an8 cd8 ct8), sl8⟩) (c8 : PySem.W.codeIn K cd8 "check_table" = true) (k8 : PySem.W.keepIn K (.ref f8) = true)
    (a9 : PySem.W.nsIn K mainGlobals "check_one" = some (some (.ref f9))) (l9 : K.lookup f9 = some ⟨oc9, od9, .func (PySem.W.fnOf "check_one" "check_one" (defArgs s_check_one) (defBody s_check_one) (defScope s_check_one) .none kV9 dc9 pm9 an9 cd9 ct9), sl9⟩) (c9 : PySem.W.codeIn K cd9 "check_one" = true) (k9 : PySem.W.keepIn K (.ref f9) = true)
    (a10 : PySem.W.nsIn K mainGlobals "unit_of" = some (some (.ref f10))) (l10 : K.lookup f10 = some ⟨oc10, od10, .func (PySem.W.fnOf "unit_of" "unit_of" (defArgs s_unit_of) (defBody s_unit_of) (defScope s_unit_of) .none kV10 dc10 pm10 an10 cd10 ct10), sl10⟩) (c10 : PySem.W.codeIn K cd10 "unit_of" = true) (k10 : PySem.W.keepIn K (.ref f10) = true)
    (a11 : PySem.W.nsIn K mainGlobals "moved_of" = some (some (.ref f11))) (l11 : K.lookup f11 = some ⟨oc11, od11, .func (PySem.W.fnOf "moved_of" "moved_of" (defArgs s_moved_of) (defBody s_moved_of) (defScope s_moved_of) .none kV11 dc11 pm11 an11 cd11 ct11), sl11⟩) (c11 : PySem.W.codeIn K cd11 "moved_of" = true) (k11 : PySem.W.keepIn K (.ref f11) = true)
    (a12 : PySem.W.nsIn K mainGlobals "behind_of" = some (some (.ref f12))) (l12 : K.lookup f12 = some ⟨oc12, od12, .func (PySem.W.fnOf "behind_of" "behind_of" (defArgs s_behind_of) (defBody s_behind_of) (defScope s_behind_of) .none kV12 dc12 pm12 an12 cd12 ct12), sl12⟩) (c12 : PySem.W.codeIn K cd12 "behind_of" = true) (k12 : PySem.W.keepIn K (.ref f12) = true)
    (a13 : PySem.W.nsIn K mainGlobals "all_rows" = some (some (.ref f13))) (l13 : K.lookup f13 = some ⟨oc13, od13, .func (PySem.W.fnOf "all_rows" "all_rows" (defArgs s_all_rows) (defBody s_all_rows) (defScope s_all_rows) .none kV13 dc13 pm13 an13 cd13 ct13), sl13⟩) (c13 : PySem.W.codeIn K cd13 "all_rows" = true) (k13 : PySem.W.keepIn K (.ref f13) = true)
    (a14 : PySem.W.nsIn K mainGlobals "round_of" = some (some (.ref f14))) (l14 : K.lookup f14 = some ⟨oc14, od14, .func (PySem.W.fnOf "round_of" "round_of" (defArgs s_round_of) (defBody s_round_of) (defScope s_round_of) .none kV14 dc14 pm14 an14 cd14 ct14), sl14⟩) (c14 : PySem.W.codeIn K cd14 "round_of" = true) (k14 : PySem.W.keepIn K (.ref f14) = true)
    (a15 : PySem.W.nsIn K mainGlobals "check_rows" = some (some (.ref f15))) (l15 : K.lookup f15 = some ⟨oc15, od15, .func (PySem.W.fnOf "check_rows" "check_rows" (defArgs s_check_rows) (defBody s_check_rows) (defScope s_check_rows) .none kV15 dc15 pm15 an15 cd15 ct15), sl15⟩) (c15 : PySem.W.codeIn K cd15 "check_rows" = true) (k15 : PySem.W.keepIn K (.ref f15) = true)
    (a16 : PySem.W.nsIn K mainGlobals "how_many" = some (some (.ref f16))) (l16 : K.lookup f16 = some ⟨oc16, od16, .func (PySem.W.fnOf "how_many" "how_many" (defArgs s_how_many) (defBody s_how_many) (defScope s_how_many) .none kV16 dc16 pm16 an16 cd16 ct16), sl16⟩) (c16 : PySem.W.codeIn K cd16 "how_many" = true) (k16 : PySem.W.keepIn K (.ref f16) = true)
    (a17 : PySem.W.nsIn K mainGlobals "power_of" = some (some (.ref f17))) (l17 : K.lookup f17 = some ⟨oc17, od17, .func (PySem.W.fnOf "power_of" "power_of" (defArgs s_power_of) (defBody s_power_of) (defScope s_power_of) .none kV17 dc17 pm17 an17 cd17 ct17), sl17⟩) (c17 : PySem.W.codeIn K cd17 "power_of" = true) (k17 : PySem.W.keepIn K (.ref f17) = true)
    (a18 : PySem.W.nsIn K mainGlobals "check_few" = some (some (.ref f18))) (l18 : K.lookup f18 = some ⟨oc18, od18, .func (PySem.W.fnOf "check_few" "check_few" (defArgs s_check_few) (defBody s_check_few) (defScope s_check_few) .none kV18 dc18 pm18 an18 cd18 ct18), sl18⟩) (c18 : PySem.W.codeIn K cd18 "check_few" = true) (k18 : PySem.W.keepIn K (.ref f18) = true)
    (a19 : PySem.W.nsIn K mainGlobals "of_many" = some (some (.ref f19))) (l19 : K.lookup f19 = some ⟨oc19, od19, .func (PySem.W.fnOf "of_many" "of_many" (defArgs s_of_many) (defBody s_of_many) (defScope s_of_many) .none kV19 dc19 pm19 an19 cd19 ct19), sl19⟩) (c19 : PySem.W.codeIn K cd19 "of_many" = true) (k19 : PySem.W.keepIn K (.ref f19) = true)
    (a20 : PySem.W.nsIn K mainGlobals "check_many" = some (some (.ref f20))) (l20 : K.lookup f20 = some ⟨oc20, od20, .func (PySem.W.fnOf "check_many" "check_many" (defArgs s_check_many) (defBody s_check_many) (defScope s_check_many) .none kV20 dc20 pm20 an20 cd20 ct20), sl20⟩) (c20 : PySem.W.codeIn K cd20 "check_many" = true) (k20 : PySem.W.keepIn K (.ref f20) = true)
    (a21 : PySem.W.nsIn K mainGlobals "of_order" = some (some (.ref f21))) (l21 : K.lookup f21 = some ⟨oc21, od21, .func (PySem.W.fnOf "of_order" "of_order" (defArgs s_of_order) (defBody s_of_order) (defScope s_of_order) .none kV21 dc21 pm21 an21 cd21 ct21), sl21⟩) (c21 : PySem.W.codeIn K cd21 "of_order" = true) (k21 : PySem.W.keepIn K (.ref f21) = true)
    (a22 : PySem.W.nsIn K mainGlobals "table_by" = some (some (.ref f22))) (l22 : K.lookup f22 = some ⟨oc22, od22, .func (PySem.W.fnOf "table_by" "table_by" (defArgs s_table_by) (defBody s_table_by) (defScope s_table_by) .none kV22 dc22 pm22 an22 cd22 ct22), sl22⟩) (c22 : PySem.W.codeIn K cd22 "table_by" = true) (k22 : PySem.W.keepIn K (.ref f22) = true)
    (a23 : PySem.W.nsIn K mainGlobals "number_of" = some (some (.ref f23))) (l23 : K.lookup f23 = some ⟨oc23, od23, .func (PySem.W.fnOf "number_of" "number_of" (defArgs s_number_of) (defBody s_number_of) (defScope s_number_of) .none kV23 dc23 pm23 an23 cd23 ct23), sl23⟩) (c23 : PySem.W.codeIn K cd23 "number_of" = true) (k23 : PySem.W.keepIn K (.ref f23) = true)
    (a24 : PySem.W.nsIn K mainGlobals "_law_cell_at" = some (some (.ref f24))) (l24 : K.lookup f24 = some ⟨oc24, od24, .func (PySem.W.fnOf "_law_cell_at" "_law_cell_at" (defArgs s__law_cell_at) (defBody s__law_cell_at) (defScope s__law_cell_at) .none kV24 dc24 pm24 an24 cd24 ct24), sl24⟩) (c24 : PySem.W.codeIn K cd24 "_law_cell_at" = true) (k24 : PySem.W.keepIn K (.ref f24) = true)
    (a25 : PySem.W.nsIn K mainGlobals "_law_draw" = some (some (.ref f25))) (l25 : K.lookup f25 = some ⟨oc25, od25, .func (PySem.W.fnOf "_law_draw" "_law_draw" (defArgs s__law_draw) (defBody s__law_draw) (defScope s__law_draw) .none kV25 dc25 pm25 an25 cd25 ct25), sl25⟩) (c25 : PySem.W.codeIn K cd25 "_law_draw" = true) (k25 : PySem.W.keepIn K (.ref f25) = true)
    (a26 : PySem.W.nsIn K mainGlobals "_law_value" = some (some (.ref f26))) (l26 : K.lookup f26 = some ⟨oc26, od26, .func (PySem.W.fnOf "_law_value" "_law_value" (defArgs s__law_value) (defBody s__law_value) (defScope s__law_value) .none kV26 dc26 pm26 an26 cd26 ct26), sl26⟩) (c26 : PySem.W.codeIn K cd26 "_law_value" = true) (k26 : PySem.W.keepIn K (.ref f26) = true)
    (a27 : PySem.W.nsIn K mainGlobals "_law_whole" = some (some (.ref f27))) (l27 : K.lookup f27 = some ⟨oc27, od27, .func (PySem.W.fnOf "_law_whole" "_law_whole" (defArgs s__law_whole) (defBody s__law_whole) (defScope s__law_whole) .none kV27 dc27 pm27 an27 cd27 ct27), sl27⟩) (c27 : PySem.W.codeIn K cd27 "_law_whole" = true) (k27 : PySem.W.keepIn K (.ref f27) = true)
    (a28 : PySem.W.nsIn K mainGlobals "_law_copy" = some (some (.ref f28))) (l28 : K.lookup f28 = some ⟨oc28, od28, .func (PySem.W.fnOf "_law_copy" "_law_copy" (defArgs s__law_copy) (defBody s__law_copy) (defScope s__law_copy) .none kV28 dc28 pm28 an28 cd28 ct28), sl28⟩) (c28 : PySem.W.codeIn K cd28 "_law_copy" = true) (k28 : PySem.W.keepIn K (.ref f28) = true)
    (a29 : PySem.W.nsIn K mainGlobals "_law_unit" = some (some (.ref f29))) (l29 : K.lookup f29 = some ⟨oc29, od29, .func (PySem.W.fnOf "_law_unit" "_law_unit" (defArgs s__law_unit) (defBody s__law_unit) (defScope s__law_unit) .none kV29 dc29 pm29 an29 cd29 ct29), sl29⟩) (c29 : PySem.W.codeIn K cd29 "_law_unit" = true) (k29 : PySem.W.keepIn K (.ref f29) = true)
    (a30 : PySem.W.nsIn K mainGlobals "_law_moved" = some (some (.ref f30))) (l30 : K.lookup f30 = some ⟨oc30, od30, .func (PySem.W.fnOf "_law_moved" "_law_moved" (defArgs s__law_moved) (defBody s__law_moved) (defScope s__law_moved) .none kV30 dc30 pm30 an30 cd30 ct30), sl30⟩) (c30 : PySem.W.codeIn K cd30 "_law_moved" = true) (k30 : PySem.W.keepIn K (.ref f30) = true)
    (a31 : PySem.W.nsIn K mainGlobals "_law_behind" = some (some (.ref f31))) (l31 : K.lookup f31 = some ⟨oc31, od31, .func (PySem.W.fnOf "_law_behind" "_law_behind" (defArgs s__law_behind) (defBody s__law_behind) (defScope s__law_behind) .none kV31 dc31 pm31 an31 cd31 ct31), sl31⟩) (c31 : PySem.W.codeIn K cd31 "_law_behind" = true) (k31 : PySem.W.keepIn K (.ref f31) = true)
    (a32 : PySem.W.nsIn K mainGlobals "_law_is_row" = some (some (.ref f32))) (l32 : K.lookup f32 = some ⟨oc32, od32, .func (PySem.W.fnOf "_law_is_row" "_law_is_row" (defArgs s__law_is_row) (defBody s__law_is_row) (defScope s__law_is_row) .none kV32 dc32 pm32 an32 cd32 ct32), sl32⟩) (c32 : PySem.W.codeIn K cd32 "_law_is_row" = true) (k32 : PySem.W.keepIn K (.ref f32) = true)
    (a33 : PySem.W.nsIn K mainGlobals "_law_is_table" = some (some (.ref f33))) (l33 : K.lookup f33 = some ⟨oc33, od33, .func (PySem.W.fnOf "_law_is_table" "_law_is_table" (defArgs s__law_is_table) (defBody s__law_is_table) (defScope s__law_is_table) .none kV33 dc33 pm33 an33 cd33 ct33), sl33⟩) (c33 : PySem.W.codeIn K cd33 "_law_is_table" = true) (k33 : PySem.W.keepIn K (.ref f33) = true)
    (a34 : PySem.W.nsIn K mainGlobals "_law_rows" = some (some (.ref f34))) (l34 : K.lookup f34 = some ⟨oc34, od34, .func (PySem.W.fnOf "_law_rows" "_law_rows" (defArgs s__law_rows) (defBody s__law_rows) (defScope s__law_rows) .none kV34 dc34 pm34 an34 cd34 ct34), sl34⟩) (c34 : PySem.W.codeIn K cd34 "_law_rows" = true) (k34 : PySem.W.keepIn K (.ref f34) = true)
    (a35 : PySem.W.nsIn K mainGlobals "_law_spanned" = some (some (.ref f35))) (l35 : K.lookup f35 = some ⟨oc35, od35, .func (PySem.W.fnOf "_law_spanned" "_law_spanned" (defArgs s__law_spanned) (defBody s__law_spanned) (defScope s__law_spanned) .none kV35 dc35 pm35 an35 cd35 ct35), sl35⟩) (c35 : PySem.W.codeIn K cd35 "_law_spanned" = true) (k35 : PySem.W.keepIn K (.ref f35) = true)
    (a36 : PySem.W.nsIn K mainGlobals "_law_rank" = some (some (.ref f36))) (l36 : K.lookup f36 = some ⟨oc36, od36, .func (PySem.W.fnOf "_law_rank" "_law_rank" (defArgs s__law_rank) (defBody s__law_rank) (defScope s__law_rank) .none kV36 dc36 pm36 an36 cd36 ct36), sl36⟩) (c36 : PySem.W.codeIn K cd36 "_law_rank" = true) (k36 : PySem.W.keepIn K (.ref f36) = true)
    (a37 : PySem.W.nsIn K mainGlobals "_law_times" = some (some (.ref f37))) (l37 : K.lookup f37 = some ⟨oc37, od37, .func (PySem.W.fnOf "_law_times" "_law_times" (defArgs s__law_times) (defBody s__law_times) (defScope s__law_times) .none kV37 dc37 pm37 an37 cd37 ct37), sl37⟩) (c37 : PySem.W.codeIn K cd37 "_law_times" = true) (k37 : PySem.W.keepIn K (.ref f37) = true)
    (a38 : PySem.W.nsIn K mainGlobals "_law_few_right" = some (some (.ref f38))) (l38 : K.lookup f38 = some ⟨oc38, od38, .func (PySem.W.fnOf "_law_few_right" "_law_few_right" (defArgs s__law_few_right) (defBody s__law_few_right) (defScope s__law_few_right) .none kV38 dc38 pm38 an38 cd38 ct38), sl38⟩) (c38 : PySem.W.codeIn K cd38 "_law_few_right" = true) (k38 : PySem.W.keepIn K (.ref f38) = true)
    (a39 : PySem.W.nsIn K mainGlobals "law" = some (some (.ref f39))) (l39 : K.lookup f39 = some ⟨oc39, od39, .func (PySem.W.fnOf "law" "law" (defArgs s_law) (defBody s_law) (defScope s_law) .none kV39 dc39 pm39 an39 cd39 ct39), sl39⟩) (c39 : PySem.W.codeIn K cd39 "law" = true) (k39 : PySem.W.keepIn K (.ref f39) = true)
    (z0 : PySem.W.nsIn K mainGlobals "isinstance" = some none)
    (z1 : PySem.W.nsIn K mainGlobals "int" = some none)
    (z2 : PySem.W.nsIn K mainGlobals "bool" = some none)
    (z3 : PySem.W.nsIn K mainGlobals "str" = some none)
    (z4 : PySem.W.nsIn K mainGlobals "list" = some none)
    (z5 : PySem.W.nsIn K mainGlobals "len" = some none)
    (z6 : PySem.W.nsIn K mainGlobals "all" = some none)
    (z7 : PySem.W.nsIn K mainGlobals "any" = some none)
    (z8 : PySem.W.nsIn K mainGlobals "range" = some none)
    (z9 : PySem.W.nsIn K mainGlobals "sum" = some none)
    (z10 : PySem.W.nsIn K mainGlobals "zip" = some none)
    (z11 : PySem.W.nsIn K mainGlobals "min" = some none)
    (z12 : PySem.W.nsIn K mainGlobals "max" = some none)
    (z13 : PySem.W.nsIn K mainGlobals "enumerate" = some none)
    (z14 : PySem.W.nsIn K mainGlobals "sorted" = some none)
    {tm t1 t2 t3 t4 : Tok} {rc : Addr} {rd : Option Addr} {rn : Nat} {rs : Array (Option Value)} (u0 : PySem.W.nsIn K mainGlobals "MOST" = some (some (.int 3 tm)))
    (u1 : PySem.W.nsIn K mainGlobals "ROUNDS" = some (some (.ref rc))) (u2 : K.lookup rc = some ⟨.type "tuple", rd, .seq #[.int 2 t1, .int 3 t2, .int 5 t3, .int 7 t4] rn, rs⟩)
    : ∃ fd : FuncData, (∀ (s : Shared) (v : Value), BindsTo s fd ⟨[v], []⟩ [("_law_script", v)]) ∧ ∀ base : Heap, K.In base → base.Ns mainGlobals mg → FnG P w K mg base CX0 8 fa fd ["_law_script"] (spL 63 K) := by
  have e := hfa.symm.trans (PySem.W.mg_of X G a39)
  cases e
  refine ⟨PySem.W.fnOf "law" "law" (defArgs s_law) (defBody s_law) (defScope s_law) .none kV39 dc39 pm39 an39 cd39 ct39, fun s v => .of_eq rfl, fun base _ _ => ?_⟩
  let M : Md := ⟨P, w, K, mg, base⟩
  have F_back_of : FnE M "back_of" s_back_of P_back_of := .mk X G a0 l0 c0 k0 fun _ _ _ _ _ _ us hl => match us, hl with | [_, _], _ => rfl
  have F_less_of : FnE M "less_of" s_less_of P_less_of := .mk X G a1 l1 c1 k1 fun _ _ _ _ _ _ us hl => match us, hl with | [_, _, _, _], _ => rfl
  have F_cleared : FnE M "cleared" s_cleared P_cleared := .mk X G a2 l2 c2 k2 fun _ _ _ _ _ _ us hl => match us, hl with | [_, _, _], _ => rfl
  have F_rank_of : FnE M "rank_of" s_rank_of P_rank_of := .mk X G a3 l3 c3 k3 fun _ _ _ _ _ _ us hl => match us, hl with | [_, _], _ => rfl
  have F_is_whole : FnE M "is_whole" s_is_whole P_is_whole := .mk X G a4 l4 c4 k4 fun _ _ _ _ _ _ us hl => match us, hl with | [_], _ => rfl
  have F_check_round : FnE M "check_round" s_check_round P_check_round := .mk X G a5 l5 c5 k5 fun _ _ _ _ _ _ us hl => match us, hl with | [_], _ => rfl
  have F_is_row : FnE M "is_row" s_is_row P_is_row := .mk X G a6 l6 c6 k6 fun _ _ _ _ _ _ us hl => match us, hl with | [_, _, _], _ => rfl
  have F_is_table : FnE M "is_table" s_is_table P_is_table := .mk X G a7 l7 c7 k7 fun _ _ _ _ _ _ us hl => match us, hl with | [_, _], _ => rfl
  have F_check_table : FnE M "check_table" s_check_table P_check_table := .mk X G a8 l8 c8 k8 fun _ _ _ _ _ _ us hl => match us, hl with | [_, _], _ => rfl
  have F_check_one : FnE M "check_one" s_check_one P_check_one := .mk X G a9 l9 c9 k9 fun _ _ _ _ _ _ us hl => match us, hl with | [_, _], _ => rfl
  have F_unit_of : FnE M "unit_of" s_unit_of P_unit_of := .mk X G a10 l10 c10 k10 fun _ _ _ _ _ _ us hl => match us, hl with | [_], _ => rfl
  have F_moved_of : FnE M "moved_of" s_moved_of P_moved_of := .mk X G a11 l11 c11 k11 fun _ _ _ _ _ _ us hl => match us, hl with | [_, _, _], _ => rfl
  have F_behind_of : FnE M "behind_of" s_behind_of P_behind_of := .mk X G a12 l12 c12 k12 fun _ _ _ _ _ _ us hl => match us, hl with | [_, _, _], _ => rfl
  have F_all_rows : FnE M "all_rows" s_all_rows P_all_rows := .mk X G a13 l13 c13 k13 fun _ _ _ _ _ _ us hl => match us, hl with | [_, _], _ => rfl
  have F_round_of : FnE M "round_of" s_round_of P_round_of := .mk X G a14 l14 c14 k14 fun _ _ _ _ _ _ us hl => match us, hl with | [_, _], _ => rfl
  have F_check_rows : FnE M "check_rows" s_check_rows P_check_rows := .mk X G a15 l15 c15 k15 fun _ _ _ _ _ _ us hl => match us, hl with | [_, _], _ => rfl
  have F_how_many : FnE M "how_many" s_how_many P_how_many := .mk X G a16 l16 c16 k16 fun _ _ _ _ _ _ us hl => match us, hl with | [_, _], _ => rfl
  have F_power_of : FnE M "power_of" s_power_of P_power_of := .mk X G a17 l17 c17 k17 fun _ _ _ _ _ _ us hl => match us, hl with | [_, _], _ => rfl
  have F_check_few : FnE M "check_few" s_check_few P_check_few := .mk X G a18 l18 c18 k18 fun _ _ _ _ _ _ us hl => match us, hl with | [_, _], _ => rfl
  have F_of_many : FnE M "of_many" s_of_many P_of_many := .mk X G a19 l19 c19 k19 fun _ _ _ _ _ _ us hl => match us, hl with | [_, _, _], _ => rfl
  have F_check_many : FnE M "check_many" s_check_many P_check_many := .mk X G a20 l20 c20 k20 fun _ _ _ _ _ _ us hl => match us, hl with | [_, _, _], _ => rfl
  have F_of_order : FnE M "of_order" s_of_order P_of_order := .mk X G a21 l21 c21 k21 fun _ _ _ _ _ _ us hl => match us, hl with | [_, _, _], _ => rfl
  have F_table_by : FnE M "table_by" s_table_by P_table_by := .mk X G a22 l22 c22 k22 fun _ _ _ _ _ _ us hl => match us, hl with | [_, _, _, _], _ => rfl
  have F_number_of : FnE M "number_of" s_number_of P_number_of := .mk X G a23 l23 c23 k23 fun _ _ _ _ _ _ us hl => match us, hl with | [_, _], _ => rfl
  have F__law_cell_at : FnE M "_law_cell_at" s__law_cell_at P__law_cell_at := .mk X G a24 l24 c24 k24 fun _ _ _ _ _ _ us hl => match us, hl with | [_, _], _ => rfl
  have F__law_draw : FnE M "_law_draw" s__law_draw P__law_draw := .mk X G a25 l25 c25 k25 fun _ _ _ _ _ _ us hl => match us, hl with | [_, _, _], _ => rfl
  have F__law_value : FnE M "_law_value" s__law_value P__law_value := .mk X G a26 l26 c26 k26 fun _ _ _ _ _ _ us hl => match us, hl with | [_, _], _ => rfl
  have F__law_whole : FnE M "_law_whole" s__law_whole P__law_whole := .mk X G a27 l27 c27 k27 fun _ _ _ _ _ _ us hl => match us, hl with | [_], _ => rfl
  have F__law_copy : FnE M "_law_copy" s__law_copy P__law_copy := .mk X G a28 l28 c28 k28 fun _ _ _ _ _ _ us hl => match us, hl with | [_], _ => rfl
  have F__law_unit : FnE M "_law_unit" s__law_unit P__law_unit := .mk X G a29 l29 c29 k29 fun _ _ _ _ _ _ us hl => match us, hl with | [_], _ => rfl
  have F__law_moved : FnE M "_law_moved" s__law_moved P__law_moved := .mk X G a30 l30 c30 k30 fun _ _ _ _ _ _ us hl => match us, hl with | [_, _, _], _ => rfl
  have F__law_behind : FnE M "_law_behind" s__law_behind P__law_behind := .mk X G a31 l31 c31 k31 fun _ _ _ _ _ _ us hl => match us, hl with | [_, _, _], _ => rfl
  have F__law_is_row : FnE M "_law_is_row" s__law_is_row P__law_is_row := .mk X G a32 l32 c32 k32 fun _ _ _ _ _ _ us hl => match us, hl with | [_, _, _], _ => rfl
  have F__law_is_table : FnE M "_law_is_table" s__law_is_table P__law_is_table := .mk X G a33 l33 c33 k33 fun _ _ _ _ _ _ us hl => match us, hl with | [_, _, _], _ => rfl
  have F__law_rows : FnE M "_law_rows" s__law_rows P__law_rows := .mk X G a34 l34 c34 k34 fun _ _ _ _ _ _ us hl => match us, hl with | [_, _], _ => rfl
  have F__law_spanned : FnE M "_law_spanned" s__law_spanned P__law_spanned := .mk X G a35 l35 c35 k35 fun _ _ _ _ _ _ us hl => match us, hl with | [_, _, _], _ => rfl
  have F__law_rank : FnE M "_law_rank" s__law_rank P__law_rank := .mk X G a36 l36 c36 k36 fun _ _ _ _ _ _ us hl => match us, hl with | [_, _, _], _ => rfl
  have F__law_times : FnE M "_law_times" s__law_times P__law_times := .mk X G a37 l37 c37 k37 fun _ _ _ _ _ _ us hl => match us, hl with | [_, _], _ => rfl
  have F__law_few_right : FnE M "_law_few_right" s__law_few_right P__law_few_right := .mk X G a38 l38 c38 k38 fun _ _ _ _ _ _ us hl => match us, hl with | [_], _ => rfl
  have Z_isinstance : M.mg "isinstance" = none := PySem.W.mg_none_of X G z0
  have Z_int : M.mg "int" = none := PySem.W.mg_none_of X G z1
  have Z_bool : M.mg "bool" = none := PySem.W.mg_none_of X G z2
  have Z_str : M.mg "str" = none := PySem.W.mg_none_of X G z3
  have Z_list : M.mg "list" = none := PySem.W.mg_none_of X G z4
  have Z_len : M.mg "len" = none := PySem.W.mg_none_of X G z5
  have Z_all : M.mg "all" = none := PySem.W.mg_none_of X G z6
  have Z_any : M.mg "any" = none := PySem.W.mg_none_of X G z7
  have Z_range : M.mg "range" = none := PySem.W.mg_none_of X G z8
  have Z_sum : M.mg "sum" = none := PySem.W.mg_none_of X G z9
  have Z_zip : M.mg "zip" = none := PySem.W.mg_none_of X G z10
  have Z_min : M.mg "min" = none := PySem.W.mg_none_of X G z11
  have Z_max : M.mg "max" = none := PySem.W.mg_none_of X G z12
  have Z_enumerate : M.mg "enumerate" = none := PySem.W.mg_none_of X G z13
  have Z_sorted : M.mg "sorted" = none := PySem.W.mg_none_of X G z14
  have B : BI M.mg := ⟨Z_isinstance, Z_int, Z_bool, Z_list, Z_len, Z_all, Z_range, Z_sum, Z_zip⟩
  have C : CM M := ⟨⟨tm, PySem.W.mg_of X G u0⟩⟩
  have CR : CR M := ⟨rc, [.int 2, .int 3, .int 5, .int 7], PySem.W.mg_of X G u1, fun H => .inr ⟨_, _, rn, u2, rfl, rfl, Nat.le_of_lt (small1000 (n := 4) (by decide)), .cons ⟨t1, rfl⟩ (.cons ⟨t2, rfl⟩ (.cons ⟨t3, rfl⟩ (.cons ⟨t4, rfl⟩ .nil)))⟩, fun H => rps_ints [2, 3, 5, 7]⟩
  have a1 := ok_is_whole B F_is_whole
  have a2 := ok_check_round CR F_check_round a1
  have a3 := ok_is_row B F_is_row a1
  have a4 := ok_is_table B C F_is_table a3
  have a5 := ok_check_table F_check_table a4
  have a6 := ok_check_one F_check_one a2 a5
  have a8 := ok_unit_of B F_unit_of
  have a9 := ok_moved_of B F_moved_of
  have a10 := ok_behind_of F_behind_of a9
  have c1 := ok_back_of B F_back_of
  have c2 := ok_less_of B F_less_of
  have c3 := ok_cleared B F_cleared c1 c2
  have c4 := ok_rank_of B F_rank_of c3
  have r10 := ok_all_rows B F_all_rows
  have t2 := ok_round_of B Z_str F_round_of a8 a10
  have g1 := ok_check_rows C F_check_rows a2 a1
  have g2 := ok_power B F_power_of
  have g3 := ok_how B F_how_many g1 g2
  have g4 := ok_check_few F_check_few
  have g5 := ok_of_many B F_of_many r10 c4 t2
  have g6 := ok_check_many F_check_many g1 g4 a1
  have g7 := ok_of_order B F_of_order g6 g5
  have g8 := ok_table_by B F_table_by g6 g5 a1
  have g9 := ok_number_of B F_number_of a6 g4 c4 g5 t2
  have b1 := ok_cell_at B F__law_cell_at
  have b2 := ok_draw F__law_draw
  have b3 := ok_value F__law_value b2
  have b4 := ok_lwhole B F__law_whole
  have b8 := ok_copy B F__law_copy
  have b9 := ok_lunit B F__law_unit
  have b10 := ok_lmoved B F__law_moved
  have b11 := ok_lbehind F__law_behind b10
  have b12 := ok_lis_row B F__law_is_row b4
  have b13 := ok_lis_table B F__law_is_table b12
  have b14 := ok_span B F__law_spanned
  have b15 := ok_rank B F__law_rank b14
  have b16 := ok_lrows B F__law_rows
  have b17 := ok_ltimes B F__law_times b9 b11
  have b18 := ok_few F__law_few_right g7 g8 g9 b17
  exact body_law7 (M := M) B Z_max Z_sorted b1 b3 b16 b15 b17 b4 b13 b8 b18 g3 g7 g8 g9 (fun_mk l39 c39 k39)
end L3
open PySem PySem.W PyProof.Rows
set_option maxHeartbeats 0 in
theorem PySem.Challenge.cw_restturns_k07_whole_counted_holds : PySem.Challenge.rw_restturns_k07_whole_counted.Holds := by
  w_on; o_law; k_head; (case hw => w_witness2)
  k_fill
  refine L3.walkG (l := PySem.Challenge.rw_restturns_k07_whole_counted) (n := 63) (k := 8) (x := "_law_script") (sp := fun w => L3.spL 63 _) rfl (by decide) rfl ⟨rfl, by decide, by decide⟩ (fun w h Y => PySem.W.kIn_of Y) ?F (fun _ _ a ns hl hS => ⟨a, ns, rfl, hS, hl, fun _ e _ => e⟩)
  case F =>
    intro w mg fa h KX G hmg
    refine' L3.all_mk _ KX G hmg ?a0 ?l0 ?c0 ?k0 ?a1 ?l1 ?c1 ?k1 ?a2 ?l2 ?c2 ?k2 ?a3 ?l3 ?c3 ?k3 ?a4 ?l4 ?c4 ?k4 ?a5 ?l5 ?c5 ?k5 ?a6 ?l6 ?c6 ?k6 ?a7 ?l7 ?c7 ?k7 ?a8 ?l8 ?c8 ?k8 ?a9 ?l9 ?c9 ?k9 ?a10 ?l10 ?c10 ?k10 ?a11 ?l11 ?c11 ?k11 ?a12 ?l12 ?c12 ?k12 ?a13 ?l13 ?c13 ?k13 ?a14 ?l14 ?c14 ?k14 ?a15 ?l15 ?c15 ?k15 ?a16 ?l16 ?c16 ?k16 ?a17 ?l17 ?c17 ?k17 ?a18 ?l18 ?c18 ?k18 ?a19 ?l19 ?c19 ?k19 ?a20 ?l20 ?c20 ?k20 ?a21 ?l21 ?c21 ?k21 ?a22 ?l22 ?c22 ?k22 ?a23 ?l23 ?c23 ?k23 ?a24 ?l24 ?c24 ?k24 ?a25 ?l25 ?c25 ?k25 ?a26 ?l26 ?c26 ?k26 ?a27 ?l27 ?c27 ?k27 ?a28 ?l28 ?c28 ?k28 ?a29 ?l29 ?c29 ?k29 ?a30 ?l30 ?c30 ?k30 ?a31 ?l31 ?c31 ?k31 ?a32 ?l32 ?c32 ?k32 ?a33 ?l33 ?c33 ?k33 ?a34 ?l34 ?c34 ?k34 ?a35 ?l35 ?c35 ?k35 ?a36 ?l36 ?c36 ?k36 ?a37 ?l37 ?c37 ?k37 ?a38 ?l38 ?c38 ?k38 ?a39 ?l39 ?c39 ?k39 ?z0 ?z1 ?z2 ?z3 ?z4 ?z5 ?z6 ?z7 ?z8 ?z9 ?z10 ?z11 ?z12 ?z13 ?z14 ?u0 ?u1 ?u2
    (case a0 => k_is); (case l0 => k_is); (case c0 => k_is); (case k0 => k_is); (case a1 => k_is); (case l1 => k_is); (case c1 => k_is); (case k1 => k_is)
    (case a2 => k_is); (case l2 => k_is); (case c2 => k_is); (case k2 => k_is); (case a3 => k_is); (case l3 => k_is); (case c3 => k_is); (case k3 => k_is)
    (case a4 => k_is); (case l4 => k_is); (case c4 => k_is); (case k4 => k_is); (case a5 => k_is); (case l5 => k_is); (case c5 => k_is); (case k5 => k_is)
    (case a6 => k_is); (case l6 => k_is); (case c6 => k_is); (case k6 => k_is); (case a7 => k_is); (case l7 => k_is); (case c7 => k_is); (case k7 => k_is)
    (case a8 => k_is); (case l8 => k_is); (case c8 => k_is); (case k8 => k_is); (case a9 => k_is); (case l9 => k_is); (case c9 => k_is); (case k9 => k_is)
    (case a10 => k_is); (case l10 => k_is); (case c10 => k_is); (case k10 => k_is); (case a11 => k_is); (case l11 => k_is); (case c11 => k_is); (case k11 => k_is)
    (case a12 => k_is); (case l12 => k_is); (case c12 => k_is); (case k12 => k_is); (case a13 => k_is); (case l13 => k_is); (case c13 => k_is); (case k13 => k_is)
    (case a14 => k_is); (case l14 => k_is); (case c14 => k_is); (case k14 => k_is); (case a15 => k_is); (case l15 => k_is); (case c15 => k_is); (case k15 => k_is)
    (case a16 => k_is); (case l16 => k_is); (case c16 => k_is); (case k16 => k_is); (case a17 => k_is); (case l17 => k_is); (case c17 => k_is); (case k17 => k_is)
    (case a18 => k_is); (case l18 => k_is); (case c18 => k_is); (case k18 => k_is); (case a19 => k_is); (case l19 => k_is); (case c19 => k_is); (case k19 => k_is)
    (case a20 => k_is); (case l20 => k_is); (case c20 => k_is); (case k20 => k_is); (case a21 => k_is); (case l21 => k_is); (case c21 => k_is); (case k21 => k_is)
    (case a22 => k_is); (case l22 => k_is); (case c22 => k_is); (case k22 => k_is); (case a23 => k_is); (case l23 => k_is); (case c23 => k_is); (case k23 => k_is)
    (case a24 => k_is); (case l24 => k_is); (case c24 => k_is); (case k24 => k_is); (case a25 => k_is); (case l25 => k_is); (case c25 => k_is); (case k25 => k_is)
    (case a26 => k_is); (case l26 => k_is); (case c26 => k_is); (case k26 => k_is); (case a27 => k_is); (case l27 => k_is); (case c27 => k_is); (case k27 => k_is)
    (case a28 => k_is); (case l28 => k_is); (case c28 => k_is); (case k28 => k_is); (case a29 => k_is); (case l29 => k_is); (case c29 => k_is); (case k29 => k_is)
    (case a30 => k_is); (case l30 => k_is); (case c30 => k_is); (case k30 => k_is); (case a31 => k_is); (case l31 => k_is); (case c31 => k_is); (case k31 => k_is)
    (case a32 => k_is); (case l32 => k_is); (case c32 => k_is); (case k32 => k_is); (case a33 => k_is); (case l33 => k_is); (case c33 => k_is); (case k33 => k_is)
    (case a34 => k_is); (case l34 => k_is); (case c34 => k_is); (case k34 => k_is); (case a35 => k_is); (case l35 => k_is); (case c35 => k_is); (case k35 => k_is)
    (case a36 => k_is); (case l36 => k_is); (case c36 => k_is); (case k36 => k_is); (case a37 => k_is); (case l37 => k_is); (case c37 => k_is); (case k37 => k_is)
    (case a38 => k_is); (case l38 => k_is); (case c38 => k_is); (case k38 => k_is); (case a39 => k_is); (case l39 => k_is); (case c39 => k_is); (case k39 => k_is)
    (case z0 => k_is); (case z1 => k_is); (case z2 => k_is); (case z3 => k_is); (case z4 => k_is); (case z5 => k_is); (case z6 => k_is); (case z7 => k_is)
    (case z8 => k_is); (case z9 => k_is); (case z10 => k_is); (case z11 => k_is); (case z12 => k_is); (case z13 => k_is); (case z14 => k_is); (case u0 => k_is)
    (case u1 => k_is); (case u2 => k_is)
