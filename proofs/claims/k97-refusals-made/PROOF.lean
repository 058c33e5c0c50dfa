import PyProof.Rows.All
import Wide.All
import OpenK.AllK
import Wide.FinOn
import HandS.ForMost
import HandS.Exc
import HandS.TryOnly
import HandS.ExcOwn
import HandS.WordsExc
import HandS.Deep
import KE.SortData
import HandS.Wide
import HandS.WideBits
import HandS.Conv
import KE.KDictDisplayH
import HandS.More
import HandS.ExcValue
import HandS.ExcInit
import HandS.ExcField
import HandS.IsInst
import KE.KExcIs
import PySem.Challenge.RW_unfoldnet_k97_refusals_made
set_option Elab.async false
set_option linter.all false
set_option maxRecDepth 100000
set_option maxHeartbeats 4000000
namespace U
open PySem PySem.Spec L2

/-! ## Trees: what a value stands for, with what is owned -/
/-- a leaf: something that stays true of a value while the heap grows -/
structure Mo where
  φ : Hp → V → Prop
  mono : ∀ G G' v, Same G G' → φ G v → φ G' v
inductive OT where
  | p (m : Mo)
  | l (ts : List OT)
  | d (ks : List Key) (ts : List OT)
  | t (ks : List (List Key)) (ts : List OT)
  | o (C : Addr) (ns : List Str) (ts : List OT)

mutual
/-- data that stand in H -/
inductive Dq (H : Hp) : V → PyData → Prop
  | non : Dq H .non .none
  | bl (b : Bool) : Dq H (.bl b) (.bool b)
  | int (i : Int) : Dq H (.int i) (.int i)
  | str (x : Str) : Dq H (.str x) (.str x)
  | lst {a : Addr} {xs : List V} {ds : List PyData} : H a = some (.lst xs) → Dqs H xs ds → Dq H (.ref a) (.list ds)
  | tup {a : Addr} {xs : List V} {ds : List PyData} : H a = some (.tup xs) → Dqs H xs ds → Dq H (.ref a) (.tuple ds)
inductive Dqs (H : Hp) : List V → List PyData → Prop
  | nil : Dqs H [] []
  | cons {v : V} {vs : List V} {d : PyData} {ds : List PyData} : Dq H v d → Dqs H vs ds → Dqs H (v :: vs) (d :: ds)
end
mutual
theorem Dq.mono {H H' : Hp} (e : Same H H') : ∀ {v : V} {d : PyData}, Dq H v d → Dq H' v d
  | _, _, .non => .non
  | _, _, .bl b => .bl b
  | _, _, .int i => .int i
  | _, _, .str x => .str x
  | _, _, .lst h r => .lst (e _ _ h) (Dqs.mono e r)
  | _, _, .tup h r => .tup (e _ _ h) (Dqs.mono e r)
theorem Dqs.mono {H H' : Hp} (e : Same H H') : ∀ {v : List V} {d : List PyData}, Dqs H v d → Dqs H' v d
  | _, _, .nil => .nil
  | _, _, .cons h r => .cons (Dq.mono e h) (Dqs.mono e r)
end
mutual
theorem Dq.dp {K : PySem.W.Frag} {H : Hp} : ∀ {v : V} {d : PyData}, Dq H v d → Dp K H v d
  | _, _, .non => .non
  | _, _, .bl b => .bl b
  | _, _, .int i => .int i
  | _, _, .str x => .str x
  | _, _, .lst h r => .lst (.of h) (Dqs.dp r)
  | _, _, .tup h r => .tup (.of h) (Dqs.dp r)
theorem Dqs.dp {K : PySem.W.Frag} {H : Hp} : ∀ {v : List V} {d : List PyData}, Dqs H v d → DpAll K H v d
  | _, _, .nil => .nil
  | _, _, .cons h r => .cons (Dq.dp h) (Dqs.dp r)
end
theorem Dqs.len {H : Hp} : ∀ {v : List V} {d : List PyData}, Dqs H v d → v.length = d.length
  | _, _, .nil => rfl
  | _, _, .cons _ r => congrArg (· + 1) (Dqs.len r)

/-- data, as a leaf -/
def dat (d : PyData) : Mo := ⟨fun G v => Dq G v d, fun _ _ _ s h => Dq.mono s h⟩

section
/-! ### owned: the tree of v, its own objects at fp in H; the leaves in G -/
mutual
inductive OR (G H : Hp) : V → OT → List Addr → Prop
  | p {m : Mo} {v : V} : m.φ G v → OR G H v (.p m) []
  | l {a : Addr} {vs : List V} {ts : List OT} {fp : List Addr} : H a = some (.lst vs) → ORs G H vs ts fp → OR G H (.ref a) (.l ts) (a :: fp)
  | d {a : Addr} {kvs : List (Key × V)} {ks : List Key} {ts : List OT} {fp : List Addr} : H a = some (.dK kvs) → kvs.map (·.1) = ks → ORs G H (kvs.map (·.2)) ts fp → OR G H (.ref a) (.d ks ts) (a :: fp)
  | t {a : Addr} {kvs : List (List Key × V)} {ks : List (List Key)} {ts : List OT} {fp : List Addr} : H a = some (.dT kvs) → kvs.map (·.1) = ks → ORs G H (kvs.map (·.2)) ts fp → OR G H (.ref a) (.t ks ts) (a :: fp)
  | o {a : Addr} {C dx : Addr} {fs : List (Str × V)} {ns : List Str} {ts : List OT} {fp : List Addr} : H a = some (.ins C dx fs) → fs.map (·.1) = ns → ORs G H (fs.map (·.2)) ts fp → OR G H (.ref a) (.o C ns ts) (a :: fp)
inductive ORs (G H : Hp) : List V → List OT → List Addr → Prop
  | nil : ORs G H [] [] []
  | cons {v : V} {vs : List V} {t : OT} {ts : List OT} {f fs : List Addr} : OR G H v t f → ORs G H vs ts fs → ORs G H (v :: vs) (t :: ts) (f ++ fs)
end
/-! ### seen: the same, read only -/
mutual
inductive VR (G H : Hp) : V → OT → Prop
  | p {m : Mo} {v : V} : m.φ G v → VR G H v (.p m)
  | l {a : Addr} {vs : List V} {ts : List OT} : H a = some (.lst vs) → VRs G H vs ts → VR G H (.ref a) (.l ts)
  | d {a : Addr} {kvs : List (Key × V)} {ks : List Key} {ts : List OT} : Rd H a (.dK kvs) → kvs.map (·.1) = ks → VRs G H (kvs.map (·.2)) ts → VR G H (.ref a) (.d ks ts)
  | t {a : Addr} {kvs : List (List Key × V)} {ks : List (List Key)} {ts : List OT} : Rd H a (.dT kvs) → kvs.map (·.1) = ks → VRs G H (kvs.map (·.2)) ts → VR G H (.ref a) (.t ks ts)
  | o {a : Addr} {C dx : Addr} {fs : List (Str × V)} {ns : List Str} {ts : List OT} : H a = some (.ins C dx fs) → fs.map (·.1) = ns → VRs G H (fs.map (·.2)) ts → VR G H (.ref a) (.o C ns ts)
inductive VRs (G H : Hp) : List V → List OT → Prop
  | nil : VRs G H [] []
  | cons {v : V} {vs : List V} {t : OT} {ts : List OT} : VR G H v t → VRs G H vs ts → VRs G H (v :: vs) (t :: ts)
end
end

section
variable {G H G' H' : Hp}
theorem Rd.mono {a : Addr} {u : HO} (s : Same H H') (h : Rd H a u) : Rd H' a u := by
  rcases h with h | ⟨o, h⟩
  · exact .inl (s _ _ h)
  · exact .inr ⟨o, s _ _ h⟩
mutual
theorem OR.mono (sG : Same G G') (sH : Same H H') : ∀ {v : V} {t : OT} {fp : List Addr}, OR G H v t fp → OR G' H' v t fp
  | _, _, _, @OR.p _ _ m _ h => .p (m.mono _ _ _ sG h)
  | _, _, _, .l h r => .l (sH _ _ h) (ORs.mono sG sH r)
  | _, _, _, .d h e r => .d (sH _ _ h) e (ORs.mono sG sH r)
  | _, _, _, .t h e r => .t (sH _ _ h) e (ORs.mono sG sH r)
  | _, _, _, .o h e r => .o (sH _ _ h) e (ORs.mono sG sH r)
theorem ORs.mono (sG : Same G G') (sH : Same H H') : ∀ {v : List V} {t : List OT} {fp : List Addr}, ORs G H v t fp → ORs G' H' v t fp
  | _, _, _, .nil => .nil
  | _, _, _, .cons h r => .cons (OR.mono sG sH h) (ORs.mono sG sH r)
end
mutual
theorem VR.mono (sG : Same G G') (sH : Same H H') : ∀ {v : V} {t : OT}, VR G H v t → VR G' H' v t
  | _, _, @VR.p _ _ m _ h => .p (m.mono _ _ _ sG h)
  | _, _, .l h r => .l (sH _ _ h) (VRs.mono sG sH r)
  | _, _, .d h e r => .d (Rd.mono sH h) e (VRs.mono sG sH r)
  | _, _, .t h e r => .t (Rd.mono sH h) e (VRs.mono sG sH r)
  | _, _, .o h e r => .o (sH _ _ h) e (VRs.mono sG sH r)
theorem VRs.mono (sG : Same G G') (sH : Same H H') : ∀ {v : List V} {t : List OT}, VRs G H v t → VRs G' H' v t
  | _, _, .nil => .nil
  | _, _, .cons h r => .cons (VR.mono sG sH h) (VRs.mono sG sH r)
end
mutual
theorem OR.see : ∀ {v : V} {t : OT} {fp : List Addr}, OR G H v t fp → VR G H v t
  | _, _, _, .p h => .p h
  | _, _, _, .l h r => .l h (ORs.see r)
  | _, _, _, .d h e r => .d (.of h) e (ORs.see r)
  | _, _, _, .t h e r => .t (.of h) e (ORs.see r)
  | _, _, _, .o h e r => .o h e (ORs.see r)
theorem ORs.see : ∀ {v : List V} {t : List OT} {fp : List Addr}, ORs G H v t fp → VRs G H v t
  | _, _, _, .nil => .nil
  | _, _, _, .cons h r => .cons (OR.see h) (ORs.see r)
end
mutual
theorem OR.frame {fp0 : List Addr} (k : ∀ b o, b ∈ fp0 → H b = some o → H' b = some o) : ∀ {v : V} {t : OT} {fp : List Addr}, OR G H v t fp → (∀ b ∈ fp, b ∈ fp0) → OR G H' v t fp
  | _, _, _, .p h, _ => .p h
  | _, _, _, .l h r, s => .l (k _ _ (s _ List.mem_cons_self) h) (ORs.frame k r fun b hb => s b (List.mem_cons_of_mem _ hb))
  | _, _, _, .d h e r, s => .d (k _ _ (s _ List.mem_cons_self) h) e (ORs.frame k r fun b hb => s b (List.mem_cons_of_mem _ hb))
  | _, _, _, .t h e r, s => .t (k _ _ (s _ List.mem_cons_self) h) e (ORs.frame k r fun b hb => s b (List.mem_cons_of_mem _ hb))
  | _, _, _, .o h e r, s => .o (k _ _ (s _ List.mem_cons_self) h) e (ORs.frame k r fun b hb => s b (List.mem_cons_of_mem _ hb))
theorem ORs.frame {fp0 : List Addr} (k : ∀ b o, b ∈ fp0 → H b = some o → H' b = some o) : ∀ {v : List V} {t : List OT} {fp : List Addr}, ORs G H v t fp → (∀ b ∈ fp, b ∈ fp0) → ORs G H' v t fp
  | _, _, _, .nil, _ => .nil
  | _, _, _, .cons h r, s => .cons (OR.frame k h fun b hb => s b (List.mem_append_left _ hb)) (ORs.frame k r fun b hb => s b (List.mem_append_right _ hb))
end
theorem OR.aft {a : Addr} {o : HO} {v : V} {t : OT} {fp : List Addr} (h : OR G H v t fp) (n : a ∉ fp) : OR G (upd H a o) v t fp :=
  OR.frame (fp0 := fp) (fun b u hb e => by rw [upd_ne (fun z => n (by rw [← z]; exact hb))]; exact e) h fun _ hb => hb
theorem ORs.aft {a : Addr} {o : HO} {v : List V} {t : List OT} {fp : List Addr} (h : ORs G H v t fp) (n : a ∉ fp) : ORs G (upd H a o) v t fp :=
  ORs.frame (fp0 := fp) (fun b u hb e => by rw [upd_ne (fun z => n (by rw [← z]; exact hb))]; exact e) h fun _ hb => hb
mutual
theorem OR.dom : ∀ {v : V} {t : OT} {fp : List Addr}, OR G H v t fp → ∀ b ∈ fp, ∃ o, H b = some o
  | _, _, _, .p h, b, hb => by simp at hb
  | _, _, _, .l h r, b, hb => by
    rcases List.mem_cons.mp hb with rfl | hb
    · exact ⟨_, h⟩
    · exact ORs.dom r b hb
  | _, _, _, .d h e r, b, hb => by
    rcases List.mem_cons.mp hb with rfl | hb
    · exact ⟨_, h⟩
    · exact ORs.dom r b hb
  | _, _, _, .t h e r, b, hb => by
    rcases List.mem_cons.mp hb with rfl | hb
    · exact ⟨_, h⟩
    · exact ORs.dom r b hb
  | _, _, _, .o h e r, b, hb => by
    rcases List.mem_cons.mp hb with rfl | hb
    · exact ⟨_, h⟩
    · exact ORs.dom r b hb
theorem ORs.dom : ∀ {v : List V} {t : List OT} {fp : List Addr}, ORs G H v t fp → ∀ b ∈ fp, ∃ o, H b = some o
  | _, _, _, .nil, b, hb => by simp at hb
  | _, _, _, .cons h r, b, hb => by
    rcases List.mem_append.mp hb with hb | hb
    · exact OR.dom h b hb
    · exact ORs.dom r b hb
end
end
end U

set_option Elab.async false
set_option linter.all false
set_option maxRecDepth 100000
set_option maxHeartbeats 4000000
namespace U
open PySem PySem.Spec L2

/-! ## The state of a body -/
/-- fixed through a call: what was frozen at the entry, all that was tracked at the entry, what nobody may change -/
structure Ent where
  G0 : Hp
  B : Hp
inductive Sl where
  | no
  | own (t : OT)
  | vw (t : OT)
/-- what is seen stays so as long as the frozen and the base stay -/
def Stb (n : Ent) (G : Hp) (v : V) (t : OT) : Prop := ∀ G2 H2, Same G G2 → Same G2 H2 → Same n.B H2 → VR G2 H2 v t
inductive SlO (n : Ent) (G H : Hp) : St → List Sl → List Addr → Prop
  | nil : SlO n G H [] [] []
  | no {x : Option V} {σ : St} {Δ : List Sl} {fp : List Addr} : SlO n G H σ Δ fp → SlO n G H (x :: σ) (.no :: Δ) fp
  | own {v : V} {t : OT} {f : List Addr} {σ : St} {Δ : List Sl} {fp : List Addr} : OR G H v t f → SlO n G H σ Δ fp → SlO n G H (some v :: σ) (.own t :: Δ) (f ++ fp)
  | vw {v : V} {t : OT} {σ : St} {Δ : List Sl} {fp : List Addr} : Stb n G v t → SlO n G H σ Δ fp → SlO n G H (some v :: σ) (.vw t :: Δ) fp
structure OkP (n : Ent) (Δ : List Sl) (σ : St) (G H : Hp) : Prop where
  sG : Same G H
  sB : Same n.B H
  g0 : Same n.G0 G
  gf : ∀ a o, G a = some o → n.G0 a = some o ∨ n.B a = none
  sl : ∃ fp, SlO n G H σ Δ fp ∧ fp.Nodup ∧ ∀ a ∈ fp, G a = none ∧ n.B a = none
/-- the heap has grown -/
structure Ext (G H G' H' : Hp) : Prop where
  sH : Same H H'
  sG : Same G G'
  gh : Same G' H'
  fr : ∀ a o, G' a = some o → G a = some o ∨ H a = none
theorem Ext.refl {G H : Hp} (s : Same G H) : Ext G H G H := ⟨Same.refl _, Same.refl _, s, fun _ _ h => .inl h⟩
theorem Ext.trans {G H G1 H1 G2 H2 : Hp} (a : Ext G H G1 H1) (b : Ext G1 H1 G2 H2) : Ext G H G2 H2 :=
  ⟨a.sH.trans b.sH, a.sG.trans b.sG, b.gh, fun c o h => by
    rcases b.fr c o h with h | h
    · exact a.fr c o h
    · exact .inr (a.sH.free h)⟩
/-- a new object -/
theorem Ext.new {G H : Hp} (s : Same G H) {p : Addr} (n : H p = none) (o : HO) : Ext G H G (upd H p o) :=
  ⟨fun b u e => by rw [upd_ne (ne_of_none e n)]; exact e, Same.refl _, fun b u e => by rw [upd_ne (ne_of_none (s _ _ e) n)]; exact s _ _ e, fun _ _ h => .inl h⟩
/-- .. and it is frozen -/
theorem Ext.newF {G H : Hp} (s : Same G H) {p : Addr} (n : H p = none) (o : HO) : Ext G H (upd G p o) (upd H p o) :=
  ⟨fun b u e => by rw [upd_ne (ne_of_none e n)]; exact e, fun b u e => by rw [upd_ne (ne_of_none (s _ _ e) n)]; exact e, fun b u e => by
    by_cases hb : b = p
    · subst hb; rw [upd_same] at e ⊢; exact e
    · rw [upd_ne hb] at e ⊢; exact s _ _ e, fun b u e => by
    by_cases hb : b = p
    · subst hb; exact .inr n
    · rw [upd_ne hb] at e; exact .inl e⟩
theorem Ext.gn {G H G' H' : Hp} (x : Ext G H G' H') {a : Addr} (g : G a = none) (h : H a ≠ none) : G' a = none := by
  cases e : G' a with
  | none => rfl
  | some o =>
    rcases x.fr a o e with q | q
    · rw [g] at q; cases q
    · exact absurd q h

section
variable {n : Ent} {Δ : List Sl} {σ : St} {G H G' H' : Hp} {i : Nat} {v : V} {t : OT}
theorem Stb.mono (s : Same G G') (h : Stb n G v t) : Stb n G' v t := fun G2 H2 a b c => h G2 H2 (s.trans a) b c
theorem SlO.mono (sG : Same G G') (sH : Same H H') : ∀ {σ : St} {Δ : List Sl} {fp : List Addr}, SlO n G H σ Δ fp → SlO n G' H' σ Δ fp
  | _, _, _, .nil => .nil
  | _, _, _, .no r => .no (SlO.mono sG sH r)
  | _, _, _, .own h r => .own (h.mono sG sH) (SlO.mono sG sH r)
  | _, _, _, .vw h r => .vw (h.mono sG) (SlO.mono sG sH r)
theorem SlO.dom : ∀ {σ : St} {Δ : List Sl} {fp : List Addr}, SlO n G H σ Δ fp → ∀ b ∈ fp, ∃ o, H b = some o
  | _, _, _, .nil, b, hb => by simp at hb
  | _, _, _, .no r, b, hb => SlO.dom r b hb
  | _, _, _, .own h r, b, hb => by
    rcases List.mem_append.mp hb with hb | hb
    · exact h.dom b hb
    · exact SlO.dom r b hb
  | _, _, _, .vw h r, b, hb => SlO.dom r b hb
theorem SlO.len : ∀ {σ : St} {Δ : List Sl} {fp : List Addr}, SlO n G H σ Δ fp → σ.length = Δ.length
  | _, _, _, .nil => rfl
  | _, _, _, .no r => congrArg (· + 1) (SlO.len r)
  | _, _, _, .own h r => congrArg (· + 1) (SlO.len r)
  | _, _, _, .vw h r => congrArg (· + 1) (SlO.len r)
theorem SlO.getO : ∀ {σ : St} {Δ : List Sl} {fp : List Addr} {i : Nat} {t : OT}, SlO n G H σ Δ fp → Δ[i]? = some (.own t) → ∃ v f, σ[i]? = some (some v) ∧ OR G H v t f ∧ ∀ b ∈ f, b ∈ fp
  | _, _, _, _, _, .nil, e => by simp at e
  | _, _, _, 0, _, .no r, e => by simp at e
  | _, _, _, 0, _, .own h r, e => by simp at e; subst e; exact ⟨_, _, rfl, h, fun b hb => List.mem_append_left _ hb⟩
  | _, _, _, 0, _, .vw h r, e => by simp at e
  | _, _, _, i + 1, _, .no r, e => by
    obtain ⟨v, f, a, b, c⟩ := SlO.getO (i := i) r (by simpa using e)
    exact ⟨v, f, by simpa using a, b, c⟩
  | _, _, _, i + 1, _, .own h r, e => by
    obtain ⟨v, f, a, b, c⟩ := SlO.getO (i := i) r (by simpa using e)
    exact ⟨v, f, by simpa using a, b, fun x hx => List.mem_append_right _ (c x hx)⟩
  | _, _, _, i + 1, _, .vw h r, e => by
    obtain ⟨v, f, a, b, c⟩ := SlO.getO (i := i) r (by simpa using e)
    exact ⟨v, f, by simpa using a, b, c⟩
theorem SlO.getV : ∀ {σ : St} {Δ : List Sl} {fp : List Addr} {i : Nat} {t : OT}, SlO n G H σ Δ fp → Δ[i]? = some (.vw t) → ∃ v, σ[i]? = some (some v) ∧ Stb n G v t
  | _, _, _, _, _, .nil, e => by simp at e
  | _, _, _, 0, _, .no r, e => by simp at e
  | _, _, _, 0, _, .own h r, e => by simp at e
  | _, _, _, 0, _, .vw h r, e => by simp at e; subst e; exact ⟨_, rfl, h⟩
  | _, _, _, i + 1, _, .no r, e => by
    obtain ⟨v, a, b⟩ := SlO.getV (i := i) r (by simpa using e)
    exact ⟨v, by simpa using a, b⟩
  | _, _, _, i + 1, _, .own h r, e => by
    obtain ⟨v, a, b⟩ := SlO.getV (i := i) r (by simpa using e)
    exact ⟨v, by simpa using a, b⟩
  | _, _, _, i + 1, _, .vw h r, e => by
    obtain ⟨v, a, b⟩ := SlO.getV (i := i) r (by simpa using e)
    exact ⟨v, by simpa using a, b⟩
/-- a slot is forgotten -/
theorem SlO.drop : ∀ {σ : St} {Δ : List Sl} {fp : List Addr} (i : Nat) (x : Option V), SlO n G H σ Δ fp → ∃ fp', SlO n G H (σ.set i x) (Δ.set i .no) fp' ∧ fp'.Sublist fp
  | _, _, _, i, _, .nil => ⟨[], by simpa using SlO.nil, List.Sublist.refl _⟩
  | _, _, _, 0, _, .no r => ⟨_, .no r, List.Sublist.refl _⟩
  | _, _, _, 0, _, .own h r => ⟨_, .no r, List.sublist_append_right _ _⟩
  | _, _, _, 0, _, .vw h r => ⟨_, .no r, List.Sublist.refl _⟩
  | _, _, _, i + 1, x, .no r => by
    obtain ⟨f, a, b⟩ := SlO.drop i x r
    exact ⟨f, .no a, b⟩
  | _, _, _, i + 1, x, .own h r => by
    obtain ⟨f, a, b⟩ := SlO.drop i x r
    exact ⟨_, .own h a, b.append_left _⟩
  | _, _, _, i + 1, x, .vw h r => by
    obtain ⟨f, a, b⟩ := SlO.drop i x r
    exact ⟨f, .vw h a, b⟩
/-- an empty slot is filled -/
theorem SlO.fill : ∀ {σ : St} {Δ : List Sl} {fp : List Addr} {i : Nat} {v : V} {t : OT} {f : List Addr}, SlO n G H σ Δ fp → Δ[i]? = some .no → OR G H v t f → ∃ fp', SlO n G H (σ.set i (some v)) (Δ.set i (.own t)) fp' ∧ fp'.Perm (f ++ fp)
  | _, _, _, _, _, _, _, .nil, e, _ => by simp at e
  | _, _, _, 0, _, _, _, .no r, e, h => ⟨_, .own h r, List.Perm.refl _⟩
  | _, _, _, 0, _, _, _, .own _ r, e, _ => by simp at e
  | _, _, _, 0, _, _, _, .vw _ r, e, _ => by simp at e
  | _, _, _, i + 1, _, _, _, .no r, e, h => by
    obtain ⟨f', a, b⟩ := SlO.fill (i := i) r (by simpa using e) h
    exact ⟨f', .no a, b⟩
  | _, _, _, i + 1, _, _, f, @SlO.own _ _ _ _ _ g _ _ fp q r, e, h => by
    obtain ⟨f', a, b⟩ := SlO.fill (i := i) r (by simpa using e) h
    refine ⟨_, .own q a, ?_⟩
    have z : (g ++ f').Perm (g ++ (f ++ fp)) := List.Perm.append_left g b
    refine z.trans ?_
    rw [← List.append_assoc, ← List.append_assoc]
    exact List.Perm.append_right fp List.perm_append_comm
  | _, _, _, i + 1, _, _, _, .vw q r, e, h => by
    obtain ⟨f', a, b⟩ := SlO.fill (i := i) r (by simpa using e) h
    exact ⟨f', .vw q a, b⟩
theorem SlO.fillV : ∀ {σ : St} {Δ : List Sl} {fp : List Addr} {i : Nat} {v : V} {t : OT}, SlO n G H σ Δ fp → Δ[i]? = some .no → Stb n G v t → SlO n G H (σ.set i (some v)) (Δ.set i (.vw t)) fp
  | _, _, _, _, _, _, .nil, e, _ => by simp at e
  | _, _, _, 0, _, _, .no r, e, h => .vw h r
  | _, _, _, 0, _, _, .own _ r, e, _ => by simp at e
  | _, _, _, 0, _, _, .vw _ r, e, _ => by simp at e
  | _, _, _, i + 1, _, _, .no r, e, h => .no (SlO.fillV (i := i) r (by simpa using e) h)
  | _, _, _, i + 1, _, _, .own q r, e, h => .own q (SlO.fillV (i := i) r (by simpa using e) h)
  | _, _, _, i + 1, _, _, .vw q r, e, h => .vw q (SlO.fillV (i := i) r (by simpa using e) h)
/-- an owned slot apart from the others -/
theorem SlO.pick : ∀ {σ : St} {Δ : List Sl} {fp : List Addr} {i : Nat} {t : OT}, SlO n G H σ Δ fp → Δ[i]? = some (.own t) → ∃ v f fp', σ[i]? = some (some v) ∧ OR G H v t f ∧ SlO n G H σ (Δ.set i .no) fp' ∧ (f ++ fp').Perm fp
  | _, _, _, _, _, .nil, e => by simp at e
  | _, _, _, 0, _, .no r, e => by simp at e
  | _, _, _, 0, _, .own h r, e => by simp at e; subst e; exact ⟨_, _, _, rfl, h, .no r, List.Perm.refl _⟩
  | _, _, _, 0, _, .vw h r, e => by simp at e
  | _, _, _, i + 1, _, .no r, e => by
    obtain ⟨v, f, f', a, b, c, d⟩ := SlO.pick (i := i) r (by simpa using e)
    exact ⟨v, f, f', by simpa using a, b, .no c, d⟩
  | _, _, _, i + 1, _, @SlO.own _ _ _ _ _ g _ _ fp q r, e => by
    obtain ⟨v, f, f', a, b, c, d⟩ := SlO.pick (i := i) r (by simpa using e)
    refine ⟨v, f, g ++ f', by simpa using a, b, .own q c, ?_⟩
    refine List.Perm.trans ?_ (List.Perm.append_left g d)
    rw [← List.append_assoc, ← List.append_assoc]
    exact List.Perm.append_right f' List.perm_append_comm
  | _, _, _, i + 1, _, .vw h r, e => by
    obtain ⟨v, f, f', a, b, c, d⟩ := SlO.pick (i := i) r (by simpa using e)
    exact ⟨v, f, f', by simpa using a, b, .vw h c, d⟩
theorem SlO.frame {fp0 : List Addr} {H' : Hp} (k : ∀ b o, b ∈ fp0 → H b = some o → H' b = some o) : ∀ {σ : St} {Δ : List Sl} {fp : List Addr}, SlO n G H σ Δ fp → (∀ b ∈ fp, b ∈ fp0) → SlO n G H' σ Δ fp
  | _, _, _, .nil, _ => .nil
  | _, _, _, .no r, s => .no (SlO.frame k r s)
  | _, _, _, .own h r, s => .own (h.frame k fun b hb => s b (List.mem_append_left _ hb)) (SlO.frame k r fun b hb => s b (List.mem_append_right _ hb))
  | _, _, _, .vw h r, s => .vw h (SlO.frame k r s)

theorem OkP.ext (o : OkP n Δ σ G H) (x : Ext G H G' H') : OkP n Δ σ G' H' := by
  obtain ⟨fp, r, nd, z⟩ := o.sl
  refine ⟨x.gh, o.sB.trans x.sH, o.g0.trans x.sG, fun a u e => ?_, fp, r.mono x.sG x.sH, nd, fun a ha => ⟨x.gn (z a ha).1 ?_, (z a ha).2⟩⟩
  · rcases x.fr a u e with q | q
    · exact o.gf a u q
    · exact .inr (o.sB.free q)
  · obtain ⟨u, e⟩ := r.dom a ha
    rw [e]; exact fun z => by cases z
end

/-! ## Judgements -/
inductive Kd where
  | own (t : OT)
  | vw (t : OT)
  | st (t : OT)
def KdR (n : Ent) (G' H' H : Hp) (v : V) : Kd → Prop
  | .own t => ∃ fp, OR G' H' v t fp ∧ fp.Nodup ∧ ∀ a ∈ fp, H a = none ∧ G' a = none
  | .vw t => VR G' H' v t
  | .st t => Stb n G' v t
/-- an expression that changes nothing that stood -/
def DE (te : TE) (Δ : List Sl) (k : Kd) : Prop := ∀ (n : Ent) (σ : St) (G H : Hp) (Q : VK), OkP n Δ σ G H →
  (∀ v G' H', Ext G H G' H' → KdR n G' H' H v k → Q v H') → te σ H Q
def DT (tt : TT) (Δ : List Sl) (b : Bool) : Prop := ∀ (n : Ent) (σ : St) (G H : Hp) (Q : Bool → Hp → Prop), OkP n Δ σ G H →
  (∀ G' H', Ext G H G' H' → Q b H') → tt σ H Q
def DA (ta : TA) (Δ : List Sl) (ts : List OT) : Prop := ∀ (n : Ent) (σ : St) (G H : Hp) (Q : List V → Hp → Prop), OkP n Δ σ G H →
  (∀ vs G' H', Ext G H G' H' → VRs G' H' vs ts → Q vs H') → ta σ H Q

/-- what is wanted behind a statement, of the slots -/
structure Pst where
  nx : List Sl → Prop := fun _ => False
  rt : OT → List Sl → Prop := fun _ _ => False
  bk : List Sl → Prop := fun _ => False
  ct : List Sl → Prop := fun _ => False
structure Sat (P : Pst) (n : Ent) (D : Ends) : Prop where
  nx : ∀ Δ σ G H, P.nx Δ → OkP n Δ σ G H → D.nx σ H
  rt : ∀ t Δ σ v G H, P.rt t Δ → OkP n (.own t :: Δ) (some v :: σ) G H → D.rt v H
  bk : ∀ Δ σ G H, P.bk Δ → OkP n Δ σ G H → D.bk σ H
  ct : ∀ Δ σ G H, P.ct Δ → OkP n Δ σ G H → D.ct σ H
def DS (t : TS) (Δ : List Sl) (P : Pst) : Prop := ∀ (n : Ent) (σ : St) (G H : Hp) (D : Ends), OkP n Δ σ G H → Sat P n D → t D σ H
end U

set_option Elab.async false
set_option linter.all false
set_option maxRecDepth 100000
set_option maxHeartbeats 4000000
namespace U
open PySem PySem.Spec L2

/-! ## Data by types -/
class En (α : Type) where
  enc : α → PyData
  D : Nat
  cl : ∀ x, (enc x).canLay0 = true
  dp : ∀ x, (enc x).depth ≤ D
  eqv : ∀ x y, PyData.eqv (enc x) (enc y) = true ↔ x = y
open En (enc)
theorem En.shaped {α : Type} [En α] (h : En.D α ≤ 64) (x : α) : SeqAt.shaped (enc x) = true := by
  unfold SeqAt.shaped
  rw [En.cl]
  have := En.dp x
  simp; omega
theorem En.eqb {α : Type} [En α] [DecidableEq α] (x y : α) : PyData.eqv (enc x) (enc y) = decide (x = y) := by
  by_cases h : x = y
  · rw [decide_eq_true h]; exact (En.eqv x y).mpr h
  · rw [decide_eq_false h]
    cases e : PyData.eqv (enc x) (enc y) with
    | false => rfl
    | true => exact absurd ((En.eqv x y).mp e) h
/-- a text of signs that there are -/
def Nm := {x : Str // PyData.strOk x = true}
instance : DecidableEq Nm := fun a b => decidable_of_iff (a.1 = b.1) ⟨Subtype.ext, fun h => h ▸ rfl⟩
instance : En Nm := ⟨fun x => .str x.1, 0, fun x => by simp [PyData.canLay0, x.2], fun x => by simp [PyData.depth], fun x y => by
  simp only [PyData.eqv, beq_iff_eq]
  exact ⟨Subtype.ext, fun h => by rw [h]⟩⟩
instance : En Int := ⟨fun x => .int x, 0, fun x => by simp [PyData.canLay0], fun x => by simp [PyData.depth], fun x y => by simp [PyData.eqv]⟩
instance : En Nat := ⟨fun x => .int x, 0, fun x => by simp [PyData.canLay0], fun x => by simp [PyData.depth], fun x y => by simp [PyData.eqv]; omega⟩
instance : En Bool := ⟨fun x => .bool x, 0, fun x => by simp [PyData.canLay0], fun x => by simp [PyData.depth], fun x y => by simp [PyData.eqv]⟩
instance : En Unit := ⟨fun _ => .none, 0, fun x => by simp [PyData.canLay0], fun x => by simp [PyData.depth], fun x y => by simp [PyData.eqv]⟩
theorem encs_cl {α : Type} [En α] : ∀ xs : List α, PyData.canLayAll0 (xs.map enc) = true
  | [] => by simp [PyData.canLayAll0]
  | x :: xs => by simp [PyData.canLayAll0, En.cl, encs_cl xs]
theorem encs_dp {α : Type} [En α] : ∀ xs : List α, PyData.depthAll (xs.map enc) ≤ En.D α
  | [] => by simp [PyData.depthAll]
  | x :: xs => by
    have h1 := En.dp x
    have h2 := encs_dp xs
    simp only [List.map_cons, PyData.depthAll]
    omega
theorem encs_eqv {α : Type} [En α] : ∀ xs ys : List α, PyData.eqvAll (xs.map enc) (ys.map enc) = true ↔ xs = ys
  | [], [] => by simp [PyData.eqvAll]
  | [], _ :: _ => by simp [PyData.eqvAll]
  | _ :: _, [] => by simp [PyData.eqvAll]
  | x :: xs, y :: ys => by simp [PyData.eqvAll, En.eqv, encs_eqv xs ys]
instance {α : Type} [En α] : En (List α) := ⟨fun xs => .list (xs.map enc), En.D α + 1, fun x => by simp [PyData.canLay0, encs_cl], fun x => by
  have := encs_dp x
  simp only [PyData.depth]; omega, fun x y => by simp only [PyData.eqv]; exact encs_eqv x y⟩
/-- a tuple of any length -/
structure Tu (α : Type) where
  l : List α
  deriving DecidableEq
instance {α : Type} [En α] : En (Tu α) := ⟨fun xs => .tuple (xs.l.map enc), En.D α + 1, fun x => by simp [PyData.canLay0, encs_cl], fun x => by
  have := encs_dp x.l
  simp only [PyData.depth]; omega, fun x y => by
    simp only [PyData.eqv, encs_eqv]
    exact ⟨fun h => by cases x; cases y; simp at h; rw [h], fun h => by rw [h]⟩⟩
instance {α β : Type} [En α] [En β] : En (α × β) := ⟨fun p => .tuple [enc p.1, enc p.2], max (En.D α) (En.D β) + 1, fun x => by simp [PyData.canLay0, PyData.canLayAll0, En.cl], fun x => by
  have h1 := En.dp x.1
  have h2 := En.dp x.2
  simp only [PyData.depth, PyData.depthAll]; omega, fun x y => by
    simp only [PyData.eqv, PyData.eqvAll, Bool.and_eq_true, En.eqv, and_true]
    exact ⟨fun h => Prod.ext h.1 h.2, fun h => by rw [h]; exact ⟨rfl, rfl⟩⟩⟩
/-- a tuple of three -/
structure T3 (α β γ : Type) where
  a : α
  b : β
  c : γ
  deriving DecidableEq
instance {α β γ : Type} [En α] [En β] [En γ] : En (T3 α β γ) := ⟨fun p => .tuple [enc p.a, enc p.b, enc p.c], max (En.D α) (max (En.D β) (En.D γ)) + 1, fun x => by simp [PyData.canLay0, PyData.canLayAll0, En.cl], fun x => by
  have h1 := En.dp x.a
  have h2 := En.dp x.b
  have h3 := En.dp x.c
  simp only [PyData.depth, PyData.depthAll]; omega, fun x y => by
    simp only [PyData.eqv, PyData.eqvAll, Bool.and_eq_true, En.eqv, and_true]
    exact ⟨fun h => by cases x; cases y; simp at h; simp [h], fun h => by rw [h]; exact ⟨rfl, rfl, rfl⟩⟩⟩
/-- None, or a whole number -/
instance : En (Option Nat) := ⟨fun x => match x with | none => .none | some i => .int i, 0, fun x => by cases x <;> simp [PyData.canLay0], fun x => by cases x <;> simp [PyData.depth], fun x y => by
  cases x <;> cases y <;> simp [PyData.eqv]; omega⟩

section
/-- data as a tree -/
abbrev J {α : Type} [En α] (x : α) : OT := .p (dat (enc x))
/-- a list of data, opened -/
abbrev JL {α : Type} [En α] (xs : List α) : OT := .l (xs.map (J))

variable {G H G' H' : Hp} {α β γ : Type} [En α] [En β] [En γ]
theorem ORs_J : ∀ {xs : List α} {vs : List V} {fp : List Addr}, ORs G H vs (xs.map (J)) fp → fp = [] ∧ Dqs G vs (xs.map enc)
  | [], _, _, h => by cases h; exact ⟨rfl, .nil⟩
  | x :: xs, _, _, h => by
    cases h with
    | cons h1 h2 =>
      obtain ⟨e, r⟩ := ORs_J h2
      cases h1 with
      | p h1 => exact ⟨by rw [e]; rfl, .cons h1 r⟩
theorem J_ORs : ∀ {xs : List α} {vs : List V}, Dqs G vs (xs.map enc) → ORs G H vs (xs.map (J)) []
  | [], _, h => by cases h; exact .nil
  | x :: xs, _, h => by
    cases h with
    | cons h1 h2 => exact .cons (f := []) (fs := []) (.p h1) (J_ORs h2)
theorem VRs_J : ∀ {xs : List α} {vs : List V}, VRs G H vs (xs.map (J)) ↔ Dqs G vs (xs.map enc)
  | [], _ => ⟨fun h => by cases h; exact .nil, fun h => by cases h; exact .nil⟩
  | x :: xs, _ => ⟨fun h => by
    cases h with
    | cons h1 h2 => cases h1 with
      | p h1 => exact .cons h1 (VRs_J.mp h2), fun h => by
    cases h with
    | cons h1 h2 => exact .cons (.p h1) (VRs_J.mpr h2)⟩
/-- a list of data that is seen reads as data -/
theorem VR_JL {xs : List α} {v : V} (sG : Same G H) (h : VR G H v (JL xs)) : Dq H v (enc xs) := by
  cases h with
  | l hs r => exact .lst hs (Dqs.mono sG (VRs_J.mp r))
theorem VR_J {x : α} {v : V} (sG : Same G H) (h : VR G H v (J x)) : Dq H v (enc x) := by
  cases h with
  | p hs => exact Dq.mono sG hs
theorem J_open {xs : List α} {v : V} (h : VR G H v (J xs)) (sG : Same G H) : VR G H v (JL xs) := by
  cases h with
  | p hs =>
    have hs' : Dq G v (.list (xs.map enc)) := hs
    cases hs' with
    | lst a b => exact .l (sG _ _ a) (VRs_J.mpr b)
end

/-! ## Rules: kinds -/
section
variable {te : TE} {Δ : List Sl} {t : OT} {α β γ : Type} [En α] [En β] [En γ]
theorem KdR.see {n : Ent} {G' H' H : Hp} {v : V} (h : KdR n G' H' H v (.own t)) : KdR n G' H' H v (.vw t) := by
  obtain ⟨fp, r, _⟩ := h
  exact r.see
theorem de_vw (h : DE te Δ (.own t)) : DE te Δ (.vw t) := fun n σ G H Q o q => h n σ G H Q o fun v G' H' x r => q v G' H' x r.see
theorem de_st_vw (h : DE te Δ (.st t)) : DE te Δ (.vw t) := fun n σ G H Q o q => h n σ G H Q o fun v G' H' x r => q v G' H' x (r G' H' (Same.refl _) x.gh (o.ext x).sB)
theorem de_leaf_st {m : Mo} (h : DE te Δ (.own (.p m))) : DE te Δ (.st (.p m)) := fun n σ G H Q o q => h n σ G H Q o fun v G' H' x ⟨fp, r, _⟩ => q v G' H' x fun G2 H2 a b c => by
  cases r with
  | p hm => exact .p (m.mono _ _ _ a hm)
theorem de_vleaf {m : Mo} (h : DE te Δ (.vw (.p m))) : DE te Δ (.own (.p m)) := fun n σ G H Q o q => h n σ G H Q o fun v G' H' x r => q v G' H' x (by
  cases r with
  | p hm => exact ⟨[], .p hm, List.nodup_nil, fun a ha => by simp at ha⟩)
theorem de_open_st {xs : List α} (h : DE te Δ (.own (J xs))) : DE te Δ (.st (JL xs)) := fun n σ G H Q o q => h n σ G H Q o fun v G' H' x ⟨fp, r, _⟩ => q v G' H' x fun G2 H2 a b c => by
  cases r with
  | p hm => exact J_open (.p (Dq.mono a hm)) b
theorem de_open {xs : List α} (h : DE te Δ (.vw (J xs))) : DE te Δ (.vw (JL xs)) := fun n σ G H Q o q => h n σ G H Q o fun v G' H' x r => q v G' H' x (J_open r x.gh)
/-- a fresh list of data is frozen -/
theorem freezeL {G H G' H' : Hp} {v : V} {xs : List α} {fp : List Addr} (x : Ext G H G' H') (r : OR G' H' v (JL xs) fp) (z : ∀ a ∈ fp, H a = none ∧ G' a = none) : ∃ G'', Ext G H G'' H' ∧ Same G' G'' ∧ Dq G'' v (enc xs) := by
  cases r with
  | @l a vs ts fp h r =>
    have za := z a List.mem_cons_self
    obtain ⟨_, r⟩ := ORs_J r
    have s1 : Same G' (upd G' a (.lst vs)) := fun b u e => by rw [upd_ne (ne_of_none e za.2)]; exact e
    refine ⟨upd G' a (.lst vs), ⟨x.sH, x.sG.trans s1, fun b u e => ?_, fun b u e => ?_⟩, s1, .lst upd_same (Dqs.mono s1 r)⟩
    · by_cases hb : b = a
      · subst hb; rw [upd_same] at e; rw [h]; exact e
      · rw [upd_ne hb] at e; exact x.gh _ _ e
    · by_cases hb : b = a
      · subst hb; exact .inr za.1
      · rw [upd_ne hb] at e; exact x.fr _ _ e
theorem de_freeze {xs : List α} (h : DE te Δ (.own (JL xs))) : DE te Δ (.own (J xs)) := fun n σ G H Q o q => h n σ G H Q o fun v G' H' x ⟨fp, r, nd, z⟩ => by
  obtain ⟨G'', x', s, d⟩ := freezeL x r z
  exact q v G'' H' x' ⟨[], .p d, List.nodup_nil, fun a ha => by simp at ha⟩

/-! ## Rules: names, constants -/
theorem de_var {i : Nat} (h : Δ[i]? = some (.own t)) : DE (tVar i) Δ (.vw t) := fun n σ G H Q o q => by
  obtain ⟨fp, r, _⟩ := o.sl
  obtain ⟨v, f, e, w, _⟩ := r.getO h
  exact ⟨v, e, q v G H (Ext.refl o.sG) w.see⟩
theorem de_varL {i : Nat} {m : Mo} (h : Δ[i]? = some (.own (.p m))) : DE (tVar i) Δ (.own (.p m)) := de_vleaf (de_var h)
theorem de_varV {i : Nat} (h : Δ[i]? = some (.vw t)) : DE (tVar i) Δ (.st t) := fun n σ G H Q o q => by
  obtain ⟨fp, r, _⟩ := o.sl
  obtain ⟨v, e, w⟩ := r.getV h
  exact ⟨v, e, q v G H (Ext.refl o.sG) w⟩
theorem de_varVL {i : Nat} {m : Mo} (h : Δ[i]? = some (.vw (.p m))) : DE (tVar i) Δ (.own (.p m)) := de_vleaf (de_st_vw (de_varV h))
theorem de_int {i : Int} : DE (tC (.int i)) Δ (.own (J i)) := fun n σ G H Q o q => q _ G H (Ext.refl o.sG) ⟨[], .p (.int i), List.nodup_nil, fun a ha => by simp at ha⟩
theorem de_nat {i : Nat} : DE (tC (.int i)) Δ (.own (J i)) := fun n σ G H Q o q => q _ G H (Ext.refl o.sG) ⟨[], .p (.int i), List.nodup_nil, fun a ha => by simp at ha⟩
theorem de_bl {b : Bool} : DE (tC (.bl b)) Δ (.own (J b)) := fun n σ G H Q o q => q _ G H (Ext.refl o.sG) ⟨[], .p (.bl b), List.nodup_nil, fun a ha => by simp at ha⟩
theorem de_non : DE (tC .non) Δ (.own (J ())) := fun n σ G H Q o q => q _ G H (Ext.refl o.sG) ⟨[], .p .non, List.nodup_nil, fun a ha => by simp at ha⟩
theorem de_str {x : Nm} : DE (tC (.str x.1)) Δ (.own (J x)) := fun n σ G H Q o q => q _ G H (Ext.refl o.sG) ⟨[], .p (.str x.1), List.nodup_nil, fun a ha => by simp at ha⟩
end
end U

set_option Elab.async false
set_option linter.all false
set_option maxRecDepth 100000
set_option maxHeartbeats 4000000
/-! operators and calls on values, whatever their kinds -/
namespace U
open PySem PySem.Spec L2
section
variable {X : Cx}
/-! ### + -/
def rStrAdd : R2 := fun x y H Q => ∃ i j, x = .str i ∧ y = .str j ∧ i.length + j.length ≤ sizeLine ∧ Q (.str (i ++ j)) H
def rAddA (K : PySem.W.Frag) : R2 := fun x y H Q => rI0 (fun i j => .int (i + j)) x y H Q ∨ rCat x y H Q ∨ rStrAdd x y H Q ∨ rCatT K x y H Q
theorem op_addA : OpR X (binaryOp .Add) (rAddA X.K) := op_add.or (op_cat.or (op_add_str.or op_catT))
/-! ### * -/
def rStrMul : R2 := fun x y H Q => ∃ (i : Str) (k : Int), x = .str i ∧ y = .int k ∧ 0 ≤ k ∧ k ≤ 1000 ∧ i.length ≤ 1000 ∧ Q (.str ⟨(List.replicate k.toNat i.cps).foldl (· ++ ·) #[]⟩) H
theorem foldl_rep_size (c : Array Nat) : ∀ (n : Nat) (z : Array Nat), ((List.replicate n c).foldl (· ++ ·) z).size = z.size + n * c.size
  | 0, z => by simp
  | n + 1, z => by
    rw [List.replicate_succ, List.foldl_cons, foldl_rep_size c n, Array.size_append, Nat.add_mul]
    omega
theorem foldl_one (c : Array Nat) : (List.replicate 1 c).foldl (· ++ ·) #[] = c := by simp
theorem op_strMul : OpR X (binaryOp .Mult) rStrMul := by
  intro pins s σ H x y v u Q I rx ry h
  obtain ⟨i, k, rfl, rfl, h0, h1, h2, q⟩ := h
  obtain ⟨t, rfl⟩ := rx
  obtain ⟨t', rfl⟩ := ry
  refine PySem.P.mul_str ?_ (fun hk _ => ?_) (fun hk _ => ?_) ?_
  · have a : decide (k < -(2 ^ 63 : Int)) = false := decide_eq_false (by omega)
    have b : decide (k ≥ (2 ^ 63 : Int)) = false := decide_eq_false (by omega)
    rw [a, b]; rfl
  · intro c
    have e : (9223372036854775 : Int) ≤ (2 ^ 63 - 1) / k := by
      rw [Int.le_ediv_iff_mul_le (by omega)]
      omega
    omega
  · have hm : i.length * k.toNat ≤ 1000 * 1000 := Nat.mul_le_mul h2 (by omega)
    unfold PySem.Builtin.Str.tooLong
    have z := sizeLine_eq
    rw [decide_eq_false]
    omega
  · split
    · rename_i hk
      have e : k = 0 := by omega
      subst e
      exact ⟨by decide, .str _, H, I.tok _, ⟨_, rfl⟩, by simpa [Str.empty] using q⟩
    · split
      · rename_i hk hb
        have e : (⟨(List.replicate k.toNat i.cps).foldl (· ++ ·) #[]⟩ : Str) = i := by
          rcases Bool.or_eq_true_iff.mp hb with hb | hb
          · have : k = 1 := by simpa using hb
            subst this
            show (⟨(List.replicate 1 i.cps).foldl (· ++ ·) #[]⟩ : Str) = i
            rw [foldl_one]
          · have hz : i.cps = #[] := by
              have : i.cps.size = 0 := by simpa [Str.length] using hb
              exact Array.eq_empty_of_size_eq_zero this
            have : ∀ m : Nat, (List.replicate m (#[] : Array Nat)).foldl (· ++ ·) #[] = #[] := by
              intro m
              induction m with
              | zero => rfl
              | succ m ih => rw [List.replicate_succ, List.foldl_cons]; simpa using ih
            cases i
            simp only at hz
            subst hz
            rw [this]
        rw [e] at q
        exact ⟨.str _, H, I, ⟨_, rfl⟩, q⟩
      · refine ⟨?_, .str _, H, I.tok _, ⟨_, rfl⟩, q⟩
        show ((List.replicate k.toNat i.cps).foldl (· ++ ·) #[]).size ≤ sizeLine
        rw [foldl_rep_size]
        have hm : k.toNat * i.cps.size ≤ 1000 * 1000 := Nat.mul_le_mul (by omega) h2
        have z := sizeLine_eq
        simp only [Array.size_empty]
        omega
def rMulA : R2 := fun x y H Q => rI CMul (fun i j => .int (i * j)) x y H Q ∨ rStrMul x y H Q ∨ rRep x y H Q
theorem op_mulA : OpR X (binaryOp .Mult) rMulA := op_mul.or (op_strMul.or op_rep)
/-! ### in -/
def rInDict : R2 := fun y x H Q => ∃ a o, x = .ref a ∧ DGet H a y o ∧ Q (.bl o.isSome) H
def rNinDict : R2 := fun y x H Q => ∃ a o, x = .ref a ∧ DGet H a y o ∧ Q (.bl (!o.isSome)) H
theorem op_inDict (hu : X.A.units + 1 < cLine) : OpR X (compareOp .In) rInDict := by
  intro pins s σ H y x v u Q I ry rx h
  obtain ⟨a, o, rfl, g, q⟩ := h
  cases rx
  exact d_in hu I g ry fun s3 I3 => ⟨.bl o.isSome, H, I3, rfl, q⟩
theorem op_ninDict (hu : X.A.units + 1 < cLine) : OpR X (compareOp .NotIn) rNinDict := by
  intro pins s σ H y x v u Q I ry rx h
  obtain ⟨a, o, rfl, g, q⟩ := h
  cases rx
  exact d_notIn hu I g ry fun s3 I3 => ⟨.bl (!o.isSome), H, I3, rfl, q⟩
def rInSign : R2 := fun x y H Q => ∃ (c : Nat) (z : Str), x = .str ⟨#[c]⟩ ∧ y = .str z ∧ Q (.bl (decide (c ∈ z.cps.toList))) H
def rInA (K : PySem.W.Frag) : R2 := fun x y H Q => rIn K false x y H Q ∨ rInD K x y H Q ∨ rInDict x y H Q ∨ rInSign x y H Q
def rNinA (K : PySem.W.Frag) : R2 := fun x y H Q => rIn K true x y H Q ∨ rNotInD K x y H Q ∨ rNinDict x y H Q
theorem op_inA (hu : X.A.units + 65 < cLine) : OpR X (compareOp .In) (rInA X.K) := op_in_seq.or ((op_inD hu).or ((op_inDict (by omega)).or op_in_sign))
theorem op_ninA (hu : X.A.units + 65 < cLine) : OpR X (compareOp .NotIn) (rNinA X.K) := op_notIn_seq.or ((op_notInD hu).or (op_ninDict (by omega)))
/-! ### a[b] -/
def rIxDict : R2 := fun x y H Q => ∃ a v, x = .ref a ∧ DGet H a y (some v) ∧ Q v H
theorem ix_dict (hu : X.A.units + 1 < cLine) : IxR X rIxDict := by
  intro value slice pins s σ H x y v u Q I rx ry h hs
  obtain ⟨a, w, rfl, g, q⟩ := h
  cases rx
  exact PyProof.Rows.tail_any (dict_typeIs I g) PySem.F.slot_dict_getitem.lookup (d_getItem hu I g ry fun w' s' I' rw' => ⟨w, H, I', rw', q⟩) hs
def rIxA (K : PySem.W.Frag) : R2 := fun x y H Q => rIx K x y H Q ∨ rIxDict x y H Q
theorem ix_any (hu : X.A.units + 1 < cLine) : IxR X (rIxA X.K) := ix_seq.or (ix_dict hu)
/-! ### slices -/
def rSlA (K : PySem.W.Frag) : V → Option Int → Option Int → Hp → VK → Prop := fun x lo hi H Q => rSlL K x lo hi H Q ∨ rSlS x lo hi H Q ∨ rSlT K x lo hi H Q
theorem sl_any : SlR X (rSlA X.K) := sl_list.or (sl_str.or sl_tup)
/-! ### len -/
def rLenA (K : PySem.W.Frag) : List V → Hp → VK → Prop := fun xs H Q => (∃ p ys, xs = [.ref p] ∧ (SqL K H p ys ∨ SqT K H p ys) ∧ Q (.int ys.length) H) ∨ (∃ z, xs = [.str z] ∧ z.length ≤ sizeLine ∧ Q (.int z.length) H) ∨ ∃ a kvs, xs = [V.ref a] ∧ H a = some (.dK kvs) ∧ Q (.int kvs.length) H
theorem call_lenA : CallR X (.builtin "len") (rLenA X.K) := call_len_seq.or (call_len_str.or call_lenD)
/-! ### sorted -/
def rSortedD (K : PySem.W.Frag) : List V → Hp → VK → Prop := fun vs H Q => ∃ (a : Addr) (ps : List (V × PyData)), vs = [.ref a] ∧ (SqL K H a (ps.map (·.1))) ∧ (∀ p ∈ ps, Dp K H p.1 p.2) ∧
  PySem.W.AllAlike (ps.map (·.2)) ∧ PySem.W.Sortable (ps.map (·.2)) ∧ (∀ p ∈ ps, p.2.depth ≤ 60) ∧
  ∀ q, H q = none → Q (.ref q) (upd H q (.lst ((ps.mergeSort (PySem.W.dataLe false (·.2))).map (·.1))))
theorem each_pair : ∀ {ps : List (V × PyData)} {us : List Value}, Vals (ps.map (·.1)) us → PySem.W.EachIs (fun u (p : V × PyData) => RelV p.1 u) us ps
  | [], us, h => by
    have h' : Vals [] us := h
    cases h'
    exact .nil
  | p :: ps, us, h => by
    have h' : Vals (p.1 :: ps.map (·.1)) us := h
    cases h' with
    | cons r t => exact .cons r (each_pair t)
theorem pair_each : ∀ {ps : List (V × PyData)} {us : List Value}, PySem.W.EachIs (fun u (p : V × PyData) => RelV p.1 u) us ps → Vals (ps.map (·.1)) us
  | _, _, .nil => .nil
  | _, _, .cons r t => .cons r (pair_each t)
theorem each_reads {pins : List (Addr × Obj)} {σ : St} {H : Hp} {s : Shared} (I : Inv X pins σ H s) : ∀ {ps : List (V × PyData)} {us : List Value}, (∀ p ∈ ps, Dp X.K H p.1 p.2) → PySem.W.EachIs (fun u (p : V × PyData) => RelV p.1 u) us ps →
    PySem.W.EachIs (fun u (p : V × PyData) => ∃ as, Reads s.heap u p.2 as) us ps
  | _, _, _, .nil => .nil
  | p :: ps, _, h, .cons r t => .cons (Dp.reads I _ _ _ (h p List.mem_cons_self) r) (each_reads I (fun q hq => h q (List.mem_cons_of_mem _ hq)) t)
theorem cr_sortedD (hu : X.A.units + 64 < cLine) : CallR X (.builtin "sorted") (rSortedD X.K) := by
  intro pins s σ H vs us Q I r h
  obtain ⟨a, ps, rfl, hs, hd, hal, hsb, hdp, q⟩ := h
  obtain ⟨its, rv, hl, hz⟩ := I.list hs
  rw [Vals.ref1 r]
  have e1 := each_pair rv
  have e2 := each_reads I hd e1
  have hlen : its.length = ps.length := by have := rv.length; simpa using this.symm
  have hz' : ps.length ≤ sizeLine := by simpa using hz
  refine PySem.W.sorted_data (enc := fun p : V × PyData => p.2) hl.isList e1 e2 hal hsb hz' (fun b hb => by have := hdp b hb; omega) fun out h1 h2 => ?_
  obtain ⟨ep, he'⟩ := PyProof.Rows.sortedAll_at s.heap its out.toArray
  have hv : Vals ((ps.mergeSort (PySem.W.dataLe false (·.2))).map (·.1)) out := pair_each h2
  refine ⟨.ref _, upd H (s.heap.objs.size + 1) (.lst ((ps.mergeSort (PySem.W.dataLe false (·.2))).map (·.1))), I.laid (t' := s.toks) (fun _ _ => PyProof.Rows.sortedAll_old) (Nat.le_succ _) ⟨?_, out, ep, hv, ?_⟩, rfl, q _ (I.hok.fresh (Nat.le_succ _))⟩
  · rw [List.length_map, List.length_mergeSort]; exact hz'
  · simpa using he'
/-! ### the size of a list that is at hand -/
/-- an expression whose value, where it is a list, has a bounded length -/
def tSz (K : PySem.W.Frag) (te : TE) : TE := fun σ H Q => te σ H fun v H1 => (∀ a xs, v = .ref a → (SqL K H1 a xs ∨ SqT K H1 a xs) → xs.length ≤ sizeLine) → Q v H1
theorem pz {e : Expr} {te : TE} (h : PE X e te) : PE X e (tSz X.K te) := ⟨fun pins s σ H Q I q => by
  refine thn (h.run pins s σ H _ I q) fun u s1 ⟨x, H1, I1, r1, q1⟩ => ⟨x, H1, I1, r1, q1 fun a xs e hs => ?_⟩
  rcases hs with hs | hs
  · obtain ⟨_, _, _, z⟩ := I1.list hs; exact z
  · obtain ⟨_, _, _, z⟩ := I1.tuple hs; exact z⟩
end
end U

set_option Elab.async false
set_option linter.all false
set_option maxRecDepth 100000
set_option maxHeartbeats 4000000
namespace U
open PySem PySem.Spec L2
open En (enc)

/-- what an owned result is -/
def OwnR (G' H' H : Hp) (v : V) (t : OT) : Prop := ∃ fp, OR G' H' v t fp ∧ fp.Nodup ∧ ∀ a ∈ fp, H a = none ∧ G' a = none
theorem OwnR.leaf {G' H' H : Hp} {v : V} {m : Mo} (h : m.φ G' v) : OwnR G' H' H v (.p m) := ⟨[], .p h, List.nodup_nil, fun a ha => by simp at ha⟩
theorem OwnR.back {G' H' H1 H : Hp} {v : V} {t : OT} (h : OwnR G' H' H1 v t) (s : Same H H1) : OwnR G' H' H v t := by
  obtain ⟨fp, r, nd, z⟩ := h
  exact ⟨fp, r, nd, fun a ha => ⟨s.free (z a ha).1, (z a ha).2⟩⟩
theorem OwnR.ext {G1 H1 G2 H2 H : Hp} {v : V} {t : OT} (h : OwnR G1 H1 H v t) (x : Ext G1 H1 G2 H2) : OwnR G2 H2 H v t := by
  obtain ⟨fp, r, nd, z⟩ := h
  refine ⟨fp, r.mono x.sG x.sH, nd, fun a ha => ⟨(z a ha).1, x.gn (z a ha).2 ?_⟩⟩
  obtain ⟨o, e⟩ := r.dom a ha
  rw [e]; exact fun z => by cases z
theorem OwnR.see {G' H' H : Hp} {v : V} {t : OT} (h : OwnR G' H' H v t) : VR G' H' v t := by
  obtain ⟨fp, r, _⟩ := h
  exact r.see
/-- a new list of what is owned apart -/
theorem OwnR.newL {G H H0 : Hp} {vs : List V} {ts : List OT} {fp : List Addr} {p : Addr} (sG : Same G H) (s0 : Same H0 H) (n : H p = none) (r : ORs G H vs ts fp) (nd : fp.Nodup) (z : ∀ a ∈ fp, H0 a = none ∧ G a = none) : OwnR G (upd H p (.lst vs)) H0 (.ref p) (.l ts) := by
  have np : p ∉ fp := fun hp => by
    obtain ⟨o, e⟩ := r.dom p hp
    rw [n] at e; cases e
  refine ⟨p :: fp, .l upd_same (r.aft np), List.nodup_cons.mpr ⟨np, nd⟩, fun a ha => ?_⟩
  rcases List.mem_cons.mp ha with rfl | ha
  · exact ⟨s0.free n, sG.free n⟩
  · exact z a ha

section
variable {K : PySem.W.Frag} {te ta tb tc : TE} {Δ : List Sl} {t t1 t2 : OT} {α β γ : Type} [En α] [En β] [En γ]

/-! ## two operands -/
theorem de_op {r : R2} (ha : DE ta Δ (.vw t1)) (hb : DE tb Δ (.vw t2)) (hr : ∀ x y G H Q, Same G H → VR G H x t1 → VR G H y t2 → (∀ v G' H', Ext G H G' H' → OwnR G' H' H v t → Q v H') → r x y H Q) : DE (tOp r ta tb) Δ (.own t) :=
  fun n σ G H Q o q => ha n σ G H _ o fun x G1 H1 e1 r1 => hb n σ G1 H1 _ (o.ext e1) fun y G2 H2 e2 r2 => hr x y G2 H2 Q e2.gh (r1.mono e2.sG e2.sH) r2 fun v G3 H3 e3 ow =>
    q v G3 H3 ((e1.trans e2).trans e3) (ow.back (e1.trans e2).sH)
/-- .. the outcome is seen, not new -/
theorem de_opV {r : R2} (ha : DE ta Δ (.vw t1)) (hb : DE tb Δ (.vw t2)) (hr : ∀ x y G H Q, Same G H → VR G H x t1 → VR G H y t2 → (∀ v, VR G H v t → Q v H) → r x y H Q) : DE (tOp r ta tb) Δ (.vw t) :=
  fun n σ G H Q o q => ha n σ G H _ o fun x G1 H1 e1 r1 => hb n σ G1 H1 _ (o.ext e1) fun y G2 H2 e2 r2 => hr x y G2 H2 Q e2.gh (r1.mono e2.sG e2.sH) r2 fun v ow =>
    q v G2 H2 (e1.trans e2) ow
theorem VR_int {G H : Hp} {v : V} {i : Int} (h : VR G H v (J i)) : v = .int i := by
  cases h with
  | p h =>
    have h' : Dq G v (.int i) := h
    cases h'; rfl
theorem VR_nat {G H : Hp} {v : V} {i : Nat} (h : VR G H v (J i)) : v = .int i := by
  cases h with
  | p h =>
    have h' : Dq G v (.int i) := h
    cases h'; rfl
theorem VR_bl {G H : Hp} {v : V} {b : Bool} (h : VR G H v (J b)) : v = .bl b := by
  cases h with
  | p h =>
    have h' : Dq G v (.bool b) := h
    cases h'; rfl
theorem VR_nm {G H : Hp} {v : V} {b : Nm} (h : VR G H v (J b)) : v = .str b.1 := by
  cases h with
  | p h =>
    have h' : Dq G v (.str b.1) := h
    cases h'; rfl
theorem VR_non {G H : Hp} {v : V} (h : VR G H v (J ())) : v = .non := by
  cases h with
  | p h =>
    have h' : Dq G v .none := h
    cases h'; rfl
theorem OwnR_int {G H H0 : Hp} {i : Int} : OwnR G H H0 (.int i) (J i) := .leaf (.int i)
theorem OwnR_nat {G H H0 : Hp} {i : Nat} : OwnR G H H0 (.int i) (J i) := .leaf (.int i)
theorem OwnR_bl {G H H0 : Hp} {i : Bool} : OwnR G H H0 (.bl i) (J i) := .leaf (.bl i)
theorem OwnR_nm {G H H0 : Hp} {i : Nm} : OwnR G H H0 (.str i.1) (J i) := .leaf (.str i.1)
/-- an operation of two ints -/
theorem de_I {C : Int → Int → Prop} {g : Int → Int → V} {i j z : Int} (ha : DE ta Δ (.vw (J i))) (hb : DE tb Δ (.vw (J j))) (hc : C i j) (hg : g i j = .int z) : DE (tOp (rI C g) ta tb) Δ (.own (J z)) :=
  de_op ha hb fun x y G H Q s r1 r2 q => ⟨i, j, VR_int r1, VR_int r2, hc, by rw [hg]; exact q _ G H (Ext.refl s) OwnR_int⟩
theorem de_I0 {g : Int → Int → V} {i j z : Int} (ha : DE ta Δ (.vw (J i))) (hb : DE tb Δ (.vw (J j))) (hg : g i j = .int z) : DE (tOp (rI0 g) ta tb) Δ (.own (J z)) :=
  de_op ha hb fun x y G H Q s r1 r2 q => ⟨i, j, VR_int r1, VR_int r2, by rw [hg]; exact q _ G H (Ext.refl s) OwnR_int⟩
theorem de_I0b {g : Int → Int → V} {i j : Int} {z : Bool} (ha : DE ta Δ (.vw (J i))) (hb : DE tb Δ (.vw (J j))) (hg : g i j = .bl z) : DE (tOp (rI0 g) ta tb) Δ (.own (J z)) :=
  de_op ha hb fun x y G H Q s r1 r2 q => ⟨i, j, VR_int r1, VR_int r2, by rw [hg]; exact q _ G H (Ext.refl s) OwnR_bl⟩
theorem de_addI {i j : Int} (ha : DE ta Δ (.vw (J i))) (hb : DE tb Δ (.vw (J j))) : DE (tOp (rAddA K) ta tb) Δ (.own (J (i + j))) :=
  de_op ha hb fun x y G H Q s r1 r2 q => .inl ⟨i, j, VR_int r1, VR_int r2, q _ G H (Ext.refl s) OwnR_int⟩
theorem de_addN {i j : Nat} (ha : DE ta Δ (.vw (J i))) (hb : DE tb Δ (.vw (J j))) : DE (tOp (rAddA K) ta tb) Δ (.own (J (i + j))) :=
  de_op ha hb fun x y G H Q s r1 r2 q => .inl ⟨i, j, VR_int r1, VR_int r2, q _ G H (Ext.refl s) OwnR_nat⟩
theorem de_mulI {i j : Int} (ha : DE ta Δ (.vw (J i))) (hb : DE tb Δ (.vw (J j))) (hc : CMul i j) : DE (tOp rMulA ta tb) Δ (.own (J (i * j))) :=
  de_op ha hb fun x y G H Q s r1 r2 q => .inl ⟨i, j, VR_int r1, VR_int r2, hc, q _ G H (Ext.refl s) OwnR_int⟩
theorem VRs.len {G H : Hp} : ∀ {vs : List V} {ts : List OT}, VRs G H vs ts → vs.length = ts.length
  | _, _, .nil => rfl
  | _, _, .cons _ r => congrArg (· + 1) (VRs.len r)
theorem ORs.len {G H : Hp} : ∀ {vs : List V} {ts : List OT} {fp : List Addr}, ORs G H vs ts fp → vs.length = ts.length
  | _, _, _, .nil => rfl
  | _, _, _, .cons _ r => congrArg (· + 1) (ORs.len r)
theorem Dqs.app {H : Hp} : ∀ {vs us : List V} {ds es : List PyData}, Dqs H vs ds → Dqs H us es → Dqs H (vs ++ us) (ds ++ es)
  | _, _, _, _, .nil, r => r
  | _, _, _, _, .cons h t, r => .cons h (Dqs.app t r)
theorem OwnR_JL {G H H0 : Hp} {p : Addr} {vs : List V} {xs : List α} (sG : Same G H) (s0 : Same H0 H) (n : H p = none) (d : Dqs G vs (xs.map enc)) : OwnR G (upd H p (.lst vs)) H0 (.ref p) (JL xs) :=
  OwnR.newL sG s0 n (J_ORs d) List.nodup_nil fun a ha => by simp at ha
/-- + of lists of data -/
theorem de_cat {xs ys : List α} (ha : DE ta Δ (.vw (JL xs))) (hb : DE tb Δ (.vw (JL ys))) (hz : xs.length + ys.length ≤ sizeLine) : DE (tOp (rAddA K) ta tb) Δ (.own (JL (xs ++ ys))) :=
  de_op ha hb fun x y G H Q s r1 r2 q => by
    cases r1 with
    | l h1 r1 =>
      cases r2 with
      | l h2 r2 =>
        have d1 := VRs_J.mp r1
        have d2 := VRs_J.mp r2
        refine .inr (.inl ⟨_, _, _, _, rfl, rfl, h1, h2, ?_, fun p hp => q _ G _ (Ext.new s hp _) (OwnR_JL s (Same.refl _) hp ?_)⟩)
        · have a := d1.len
          have b := d2.len
          simp only [List.length_map] at a b
          omega
        · rw [List.map_append]; exact d1.app d2
/-! ## == -/
/-- a tree that reads as data -/
def Isd (t : OT) (d : PyData) : Prop := ∀ G H v, Same G H → VR G H v t → Dq H v d
theorem isd_J {x : α} : Isd (J x) (enc x) := fun G H v s h => VR_J s h
theorem isd_JL {xs : List α} : Isd (JL xs) (enc xs) := fun G H v s h => VR_JL s h
theorem isd_p {d : PyData} : Isd (.p (dat d)) d := fun G H v s h => by
  cases h with
  | p h => exact Dq.mono s h
theorem isds {f : α → OT} {g : α → PyData} (h : ∀ x, Isd (f x) (g x)) {G H : Hp} (s : Same G H) : ∀ {xs : List α} {vs : List V}, VRs G H vs (xs.map f) → Dqs H vs (xs.map g)
  | [], _, r => by cases r; exact .nil
  | x :: xs, _, r => by
    cases r with
    | cons a b => exact .cons (h x G H _ s a) (isds h s b)
theorem isd_l {f : α → OT} {xs : List α} (h : ∀ x, Isd (f x) (enc x)) : Isd (.l (xs.map f)) (enc xs) := fun G H v s r => by
  cases r with
  | l a b => exact .lst a (isds h s b)
theorem de_eq {x y : α} [DecidableEq α] (ha : DE ta Δ (.vw t1)) (hb : DE tb Δ (.vw t2)) (i1 : Isd t1 (enc x)) (i2 : Isd t2 (enc y)) (hd : En.D α ≤ 64 := by decide) : DE (tOp (rEqD K) ta tb) Δ (.own (J (decide (x = y)))) :=
  de_op ha hb fun u v G H Q s r1 r2 q => ⟨_, _, (i1 G H u s r1).dp, (i2 G H v s r2).dp, En.shaped hd x, En.shaped hd y, by rw [En.eqb]; exact q _ G H (Ext.refl s) OwnR_bl⟩
theorem de_ne {x y : α} [DecidableEq α] (ha : DE ta Δ (.vw t1)) (hb : DE tb Δ (.vw t2)) (i1 : Isd t1 (enc x)) (i2 : Isd t2 (enc y)) (hd : En.D α ≤ 64 := by decide) : DE (tOp (rNeD K) ta tb) Δ (.own (J (!decide (x = y)))) :=
  de_op ha hb fun u v G H Q s r1 r2 q => ⟨_, _, (i1 G H u s r1).dp, (i2 G H v s r2).dp, En.shaped hd x, En.shaped hd y, by rw [En.eqb]; exact q _ G H (Ext.refl s) OwnR_bl⟩
/-! ## in -/
theorem any_eqv [DecidableEq α] (x : α) (xs : List α) : ((xs.map enc).any fun z => PyData.eqv z (enc x)) = decide (x ∈ xs) := by
  induction xs with
  | nil => simp
  | cons y ys ih =>
    rw [List.map_cons, List.any_cons, ih, En.eqb]
    by_cases h : y = x
    · simp [h]
    · have h' : ¬ x = y := fun e => h e.symm
      simp [h, h']
theorem de_in {x : α} {xs : List α} [DecidableEq α] (ha : DE ta Δ (.vw t1)) (hb : DE tb Δ (.vw t2)) (i1 : Isd t1 (enc x)) (i2 : Isd t2 (enc xs)) (hd : En.D α ≤ 63 := by decide) : DE (tOp (rInA K) ta tb) Δ (.own (J (decide (x ∈ xs)))) :=
  de_op ha hb fun u v G H Q s r1 r2 q => .inr (.inl ⟨_, xs.map enc, (i1 G H u s r1).dp, (i2 G H v s r2).dp, En.shaped (by omega) x, En.shaped (α := List α) (by show En.D α + 1 ≤ 64; omega) xs, by rw [any_eqv]; exact q _ G H (Ext.refl s) OwnR_bl⟩)
theorem de_nin {x : α} {xs : List α} [DecidableEq α] (ha : DE ta Δ (.vw t1)) (hb : DE tb Δ (.vw t2)) (i1 : Isd t1 (enc x)) (i2 : Isd t2 (enc xs)) (hd : En.D α ≤ 63 := by decide) : DE (tOp (rNinA K) ta tb) Δ (.own (J (!decide (x ∈ xs)))) :=
  de_op ha hb fun u v G H Q s r1 r2 q => .inr (.inl ⟨_, xs.map enc, (i1 G H u s r1).dp, (i2 G H v s r2).dp, En.shaped (by omega) x, En.shaped (α := List α) (by show En.D α + 1 ≤ 64; omega) xs, by rw [any_eqv]; exact q _ G H (Ext.refl s) OwnR_bl⟩)
/-- in a tuple of names -/
theorem inV_nm (x : Nm) {G : Hp} : ∀ {xs : List Nm} {vs : List V}, Dqs G vs (xs.map enc) → vs.all flatV = true ∧ inV (.str x.1) vs = decide (x ∈ xs)
  | [], _, h => by cases h; exact ⟨rfl, by simp [inV]⟩
  | y :: ys, _, h => by
    cases h with
    | cons a b =>
      have a' : Dq G _ (.str y.1) := a
      cases a'
      obtain ⟨i1, i2⟩ := inV_nm x b
      refine ⟨by simp [flatV, i1], ?_⟩
      unfold inV at i2 ⊢
      rw [List.any_cons, i2]
      by_cases e : y = x
      · subst e; simp [eqV]
      · have e1 : ¬ x = y := fun z => e z.symm
        have e2 : ¬ y.1 = x.1 := fun z => e (Subtype.ext z)
        simp [eqV, e1, e2]
theorem de_inT {x : Nm} {xs : Tu Nm} (ha : DE ta Δ (.vw (J x))) (hb : DE tb Δ (.vw (J xs))) : DE (tOp (rInA K) ta tb) Δ (.own (J (decide (x ∈ xs.l)))) :=
  de_op ha hb fun u v G H Q s r1 r2 q => by
    have e1 := VR_nm r1
    subst e1
    have h2 := VR_J s r2
    have h2' : Dq H v (.tuple (xs.l.map enc)) := h2
    cases h2' with
    | tup h r =>
      obtain ⟨i1, i2⟩ := inV_nm x r
      refine .inl ⟨_, _, rfl, .inr (.of h), rfl, i1, ?_⟩
      rw [if_neg (by decide), i2]
      exact q _ G H (Ext.refl s) OwnR_bl
theorem de_ninT {x : Nm} {xs : Tu Nm} (ha : DE ta Δ (.vw (J x))) (hb : DE tb Δ (.vw (J xs))) : DE (tOp (rNinA K) ta tb) Δ (.own (J (!decide (x ∈ xs.l)))) :=
  de_op ha hb fun u v G H Q s r1 r2 q => by
    have e1 := VR_nm r1
    subst e1
    have h2 := VR_J s r2
    have h2' : Dq H v (.tuple (xs.l.map enc)) := h2
    cases h2' with
    | tup h r =>
      obtain ⟨i1, i2⟩ := inV_nm x r
      refine .inl ⟨_, _, rfl, .inr (.of h), rfl, i1, ?_⟩
      rw [if_pos rfl, i2]
      exact q _ G H (Ext.refl s) OwnR_bl
/-! ## a[i] -/
theorem Dqs.at {G : Hp} : ∀ {vs : List V} {ds : List PyData} {i : Nat} {d : PyData}, Dqs G vs ds → ds[i]? = some d → ∃ v, vs[i]? = some v ∧ Dq G v d
  | _, _, _, _, .nil, e => by simp at e
  | _, _, 0, _, .cons h _, e => by simp at e; subst e; exact ⟨_, rfl, h⟩
  | _, _, i + 1, _, .cons _ r, e => by
    obtain ⟨v, a, b⟩ := Dqs.at (i := i) r (by simpa using e)
    exact ⟨v, by simpa using a, b⟩
theorem VRs.at {G H : Hp} : ∀ {vs : List V} {ts : List OT} {i : Nat} {t : OT}, VRs G H vs ts → ts[i]? = some t → ∃ v, vs[i]? = some v ∧ VR G H v t
  | _, _, _, _, .nil, e => by simp at e
  | _, _, 0, _, .cons h _, e => by simp at e; subst e; exact ⟨_, rfl, h⟩
  | _, _, i + 1, _, .cons _ r, e => by
    obtain ⟨v, a, b⟩ := VRs.at (i := i) r (by simpa using e)
    exact ⟨v, by simpa using a, b⟩
/-- an item of a list, seen -/
theorem de_ixV {ts : List OT} {i : Int} (ha : DE ta Δ (.vw (.l ts))) (hb : DE tb Δ (.vw (J i))) (hi : atI ts i = some t) : DE (tOp (rIxA K) ta tb) Δ (.vw t) :=
  de_opV ha hb fun u v G H Q s r1 r2 q => by
    have e2 := VR_int r2
    subst e2
    cases r1 with
    | l h r =>
      unfold atI at hi
      obtain ⟨j, hj, hi⟩ := Option.bind_eq_some_iff.mp hi
      obtain ⟨w, hw, rw'⟩ := r.at hi
      refine .inl (.inl ⟨_, _, _, w, rfl, rfl, .of h, ?_, q w rw'⟩)
      unfold atI
      rw [r.len, hj]
      exact hw
theorem atI_map {δ ε : Type} {f : δ → ε} {xs : List δ} {i : Int} {x : δ} (h : atI xs i = some x) : atI (xs.map f) i = some (f x) := by
  unfold atI at h ⊢
  obtain ⟨j, hj, hx⟩ := Option.bind_eq_some_iff.mp h
  rw [List.length_map, hj]
  show (xs.map f)[j]? = some (f x)
  rw [List.getElem?_map, hx]
  rfl
theorem de_ix {xs : List α} {i : Int} {x : α} (ha : DE ta Δ (.vw (JL xs))) (hb : DE tb Δ (.vw (J i))) (hi : atI xs i = some x) : DE (tOp (rIxA K) ta tb) Δ (.own (J x)) := de_vleaf (de_ixV ha hb (atI_map hi))
/-- an item of a tuple -/
theorem de_ixT {ds : List PyData} {i : Int} {d : PyData} (ha : DE ta Δ (.vw (.p (dat (.tuple ds))))) (hb : DE tb Δ (.vw (J i))) (hi : atI ds i = some d) : DE (tOp (rIxA K) ta tb) Δ (.own (.p (dat d))) :=
  de_vleaf (de_opV ha hb fun u v G H Q s r1 r2 q => by
    have e2 := VR_int r2
    subst e2
    cases r1 with
    | p h =>
      have h' : Dq G u (.tuple ds) := h
      cases h' with
      | tup a r =>
        unfold atI at hi
        obtain ⟨j, hj, hi⟩ := Option.bind_eq_some_iff.mp hi
        obtain ⟨w, hw, rw'⟩ := r.at hi
        refine .inl (.inr (.inl ⟨_, _, _, w, rfl, rfl, .of (s _ _ a), ?_, q w (.p rw')⟩))
        unfold atI
        rw [r.len, hj]
        exact hw)
end
end U

set_option Elab.async false
set_option linter.all false
set_option maxRecDepth 100000
set_option maxHeartbeats 4000000
namespace U
open PySem PySem.Spec L2
open En (enc)
section
variable {K : PySem.W.Frag} {te ta tb tc : TE} {tl : TA} {Δ : List Sl} {t t1 t2 : OT} {α β γ : Type} [En α] [En β] [En γ]

/-! ## arguments -/
/-- owned results, apart -/
def DAo (ta : TA) (Δ : List Sl) (ts : List OT) : Prop := ∀ (n : Ent) (σ : L2.St) (G H : Hp) (Q : List V → Hp → Prop), OkP n Δ σ G H →
  (∀ vs G' H' fp, Ext G H G' H' → ORs G' H' vs ts fp → fp.Nodup → (∀ a ∈ fp, H a = none ∧ G' a = none) → Q vs H') → ta σ H Q
theorem dao_nil : DAo tNil Δ [] := fun n σ G H Q o q => q [] G H [] (Ext.refl o.sG) .nil List.nodup_nil fun a ha => by simp at ha
theorem dao_cons {ts : List OT} (h : DE te Δ (.own t)) (r : DAo tl Δ ts) : DAo (tCons te tl) Δ (t :: ts) := fun n σ G H Q o q => h n σ G H _ o fun v G1 H1 e1 ⟨f1, r1, n1, z1⟩ =>
  r n σ G1 H1 _ (o.ext e1) fun vs G2 H2 f2 e2 r2 n2 z2 => q (v :: vs) G2 H2 (f1 ++ f2) (e1.trans e2) (.cons (r1.mono e2.sG e2.sH) r2) (by
    refine List.nodup_append.mpr ⟨n1, n2, fun a ha b hb e => ?_⟩
    subst e
    obtain ⟨o, h⟩ := r1.dom a ha
    rw [(z2 a hb).1] at h; cases h) fun a ha => by
      rcases List.mem_append.mp ha with ha | ha
      · refine ⟨(z1 a ha).1, e2.gn (z1 a ha).2 ?_⟩
        obtain ⟨o, h⟩ := r1.dom a ha
        rw [h]; exact fun z => by cases z
      · exact ⟨e1.sH.free (z2 a ha).1, (z2 a ha).2⟩
/-- data -/
def DAd (ta : TA) (Δ : List Sl) (ds : List PyData) : Prop := ∀ (n : Ent) (σ : L2.St) (G H : Hp) (Q : List V → Hp → Prop), OkP n Δ σ G H →
  (∀ vs G' H', Ext G H G' H' → Dqs G' vs ds → Q vs H') → ta σ H Q
theorem dad_nil : DAd tNil Δ [] := fun n σ G H Q o q => q [] G H (Ext.refl o.sG) .nil
theorem dad_cons {d : PyData} {ds : List PyData} (h : DE te Δ (.own (.p (dat d)))) (r : DAd tl Δ ds) : DAd (tCons te tl) Δ (d :: ds) := fun n σ G H Q o q => h n σ G H _ o fun v G1 H1 e1 ⟨f1, r1, n1, z1⟩ =>
  r n σ G1 H1 _ (o.ext e1) fun vs G2 H2 e2 r2 => q (v :: vs) G2 H2 (e1.trans e2) (.cons (by
    cases r1 with
    | p h => exact Dq.mono e2.sG h) r2)
/-- what is seen -/
theorem da_nil : DA tNil Δ [] := fun n σ G H Q o q => q [] G H (Ext.refl o.sG) .nil
theorem da_cons {ts : List OT} (h : DE te Δ (.vw t)) (r : DA tl Δ ts) : DA (tCons te tl) Δ (t :: ts) := fun n σ G H Q o q => h n σ G H _ o fun v G1 H1 e1 r1 =>
  r n σ G1 H1 _ (o.ext e1) fun vs G2 H2 e2 r2 => q (v :: vs) G2 H2 (e1.trans e2) (.cons (r1.mono e2.sG e2.sH) r2)
/-! ## displays -/
theorem de_lst {ts : List OT} (h : DAo tl Δ ts) (hz : ts.length ≤ sizeLine := by decide) : DE (tLst tl) Δ (.own (.l ts)) := fun n σ G H Q o q => h n σ G H _ o fun vs G1 H1 fp e1 r nd z => by
  refine ⟨by rw [r.len]; exact hz, fun p hp => q _ G1 _ (e1.trans (Ext.new e1.gh hp _)) ?_⟩
  exact OwnR.newL e1.gh e1.sH hp r nd z
theorem de_tup {ds : List PyData} (h : DAd tl Δ ds) (hz : ds.length ≤ sizeLine := by decide) : DE (tTup tl) Δ (.own (.p (dat (.tuple ds)))) := fun n σ G H Q o q => h n σ G H _ o fun vs G1 H1 e1 r => by
  refine ⟨by rw [r.len]; exact hz, fun p hp => q _ (upd G1 p (.tup vs)) _ (e1.trans (Ext.newF e1.gh hp _)) (OwnR.leaf ?_)⟩
  exact .tup upd_same (Dqs.mono (Ext.newF e1.gh hp (.tup vs)).sG r)
/-! ## calls of built-ins -/
theorem de_cb {r : List V → Hp → VK → Prop} {ts : List OT} (h : DA tl Δ ts) (hr : ∀ vs G H Q, Same G H → VRs G H vs ts → (∀ v G' H', Ext G H G' H' → OwnR G' H' H v t → Q v H') → r vs H Q) : DE (tCB r tl) Δ (.own t) :=
  fun n σ G H Q o q => h n σ G H _ o fun vs G1 H1 e1 r1 => hr vs G1 H1 Q e1.gh r1 fun v G2 H2 e2 ow => q v G2 H2 (e1.trans e2) (ow.back e1.sH)
theorem VRs_one {G H : Hp} {vs : List V} (h : VRs G H vs [t]) : ∃ v, vs = [v] ∧ VR G H v t := by
  cases h with
  | cons a b => cases b; exact ⟨_, rfl, a⟩
theorem VRs_two {G H : Hp} {vs : List V} (h : VRs G H vs [t1, t2]) : ∃ v w, vs = [v, w] ∧ VR G H v t1 ∧ VR G H w t2 := by
  cases h with
  | cons a b => cases b with
    | cons b c => cases c; exact ⟨_, _, rfl, a, b⟩
theorem de_len {ts : List OT} (h : DE ta Δ (.vw (.l ts))) : DE (tCB (rLenA K) (tCons ta tNil)) Δ (.own (J ts.length)) :=
  de_cb (da_cons h da_nil) fun vs G H Q s r q => by
    obtain ⟨v, e0, r1⟩ := VRs_one r
    subst e0
    cases r1 with
    | l a b => exact .inl ⟨_, _, rfl, .inl (.of a), by rw [b.len]; exact q _ G H (Ext.refl s) OwnR_nat⟩
theorem de_lenT {ds : List PyData} (h : DE ta Δ (.vw (.p (dat (.tuple ds))))) : DE (tCB (rLenA K) (tCons ta tNil)) Δ (.own (J ds.length)) :=
  de_cb (da_cons h da_nil) fun vs G H Q s r q => by
    obtain ⟨v, e0, r1⟩ := VRs_one r
    subst e0
    cases r1 with
    | p a =>
      have a' : Dq G v (.tuple ds) := a
      cases a' with
      | tup a0 b => exact .inl ⟨_, _, rfl, .inr (.of (s _ _ a0)), by rw [b.len]; exact q _ G H (Ext.refl s) OwnR_nat⟩
theorem de_lenD {ks : List Key} {ts : List OT} (h : DE ta Δ (.own (.d ks ts))) : True := trivial
/-- any, all -/
theorem Dqs_bl {G : Hp} : ∀ {bs : List Bool} {vs : List V}, Dqs G vs (bs.map enc) → vs = bs.map V.bl
  | [], _, h => by cases h; rfl
  | b :: bs, _, h => by
    cases h with
    | cons a r =>
      have a' : Dq G _ (.bool b) := a
      cases a'
      rw [Dqs_bl r]; rfl
theorem de_any {bs : List Bool} (h : DE ta Δ (.vw (JL bs))) : DE (tCB (rAny K) (tCons ta tNil)) Δ (.own (J (bs.any id))) :=
  de_cb (da_cons h da_nil) fun vs G H Q s r q => by
    obtain ⟨v, e0, r1⟩ := VRs_one r
    subst e0
    cases r1 with
    | l a b =>
      have e := Dqs_bl (VRs_J.mp b)
      subst e
      exact ⟨_, bs, rfl, .of a, q _ G H (Ext.refl s) OwnR_bl⟩
theorem de_all {bs : List Bool} (h : DE ta Δ (.vw (JL bs))) : DE (tCB (rAll K) (tCons ta tNil)) Δ (.own (J (bs.all id))) :=
  de_cb (da_cons h da_nil) fun vs G H Q s r q => by
    obtain ⟨v, e0, r1⟩ := VRs_one r
    subst e0
    cases r1 with
    | l a b =>
      have e := Dqs_bl (VRs_J.mp b)
      subst e
      exact ⟨_, bs, rfl, .of a, q _ G H (Ext.refl s) OwnR_bl⟩
/-- list(x), tuple(x) -/
theorem de_list {xs : List α} (h : DE ta Δ (.vw (JL xs))) : DE (tCB (fun xs H Q => ∃ p ys, xs = [.ref p] ∧ (SqL K H p ys ∨ SqT K H p ys) ∧ ∀ l, H l = none → Q (.ref l) (upd H l (.lst ys))) (tCons ta tNil)) Δ (.own (JL xs)) :=
  de_cb (da_cons h da_nil) fun vs G H Q s r q => by
    obtain ⟨v, e0, r1⟩ := VRs_one r
    subst e0
    cases r1 with
    | l a b => exact ⟨_, _, rfl, .inl (.of a), fun l hl => q _ G _ (Ext.new s hl _) (OwnR_JL s (Same.refl _) hl (VRs_J.mp b))⟩
theorem de_listT {xs : Tu α} (h : DE ta Δ (.vw (J xs))) : DE (tCB (fun xs H Q => ∃ p ys, xs = [.ref p] ∧ (SqL K H p ys ∨ SqT K H p ys) ∧ ∀ l, H l = none → Q (.ref l) (upd H l (.lst ys))) (tCons ta tNil)) Δ (.own (JL xs.l)) :=
  de_cb (da_cons h da_nil) fun vs G H Q s r q => by
    obtain ⟨v, e0, r1⟩ := VRs_one r
    subst e0
    cases r1 with
    | p a =>
      have a' : Dq G v (.tuple (xs.l.map enc)) := a
      cases a' with
      | tup a0 b => exact ⟨_, _, rfl, .inr (.of (s _ _ a0)), fun l hl => q _ G _ (Ext.new s hl _) (OwnR_JL s (Same.refl _) hl b)⟩
theorem de_tuple {xs : List α} (h : DE ta Δ (.vw (JL xs))) : DE (tCB (fun xs H Q => ∃ p ys, xs = [.ref p] ∧ ((SqL K H p ys ∧ ∀ l, H l = none → Q (.ref l) (upd H l (.tup ys))) ∨ (SqT K H p ys ∧ Q (.ref p) H))) (tCons ta tNil)) Δ (.own (J (Tu.mk xs))) :=
  de_cb (da_cons h da_nil) fun vs G H Q s r q => by
    obtain ⟨v, e0, r1⟩ := VRs_one r
    subst e0
    cases r1 with
    | l a b => exact ⟨_, _, rfl, .inl ⟨.of a, fun l hl => q _ (upd G l (.tup _)) _ (Ext.newF s hl _) (OwnR.leaf (.tup upd_same (Dqs.mono (Ext.newF s hl (.tup _)).sG (VRs_J.mp b))))⟩⟩
/-! ## sorted -/
class Ord (α : Type) [En α] where
  le : α → α → Bool
  al : ∀ x y : α, PySem.W.alike (enc x) (enc y) = true
  nn : ∀ x : α, enc x ≠ .none ∧ ∀ ds, enc x ≠ .tuple ds
  ok : ∀ x y : α, PySem.W.dataLe false (fun d : PyData => d) (enc x) (enc y) = le x y
def srt [Ord α] (xs : List α) : List α := xs.mergeSort Ord.le
instance : Ord Nm := ⟨fun a b => decide (a.1.cps.toList ≤ b.1.cps.toList), fun x y => by
  show PySem.W.alike (.str x.1) (.str y.1) = true
  simp [PySem.W.alike], fun x => ⟨(fun h => by cases h), (fun ds h => by cases h)⟩, fun x y => by
  have := congrFun (congrFun (PySem.W.dataLe_str (fun b : Nm => b.1)) x) y
  exact this⟩
instance : Ord Int := ⟨fun a b => decide (a ≤ b), fun x y => by
  show PySem.W.alike (.int x) (.int y) = true
  simp [PySem.W.alike], fun x => ⟨(fun h => by cases h), (fun ds h => by cases h)⟩, fun x y => by
  have := congrFun (congrFun (PySem.W.dataLe_int (fun b : Int => b)) x) y
  exact this⟩
instance : Ord Nat := ⟨fun a b => decide (a ≤ b), fun x y => by
  show PySem.W.alike (.int x) (.int y) = true
  simp [PySem.W.alike], fun x => ⟨(fun h => by cases h), (fun ds h => by cases h)⟩, fun x y => by
  have := congrFun (congrFun (PySem.W.dataLe_int (fun b : Nat => (b : Int))) x) y
  refine Eq.trans this ?_
  simp⟩
theorem zip_Dq {G : Hp} : ∀ {xs : List α} {vs : List V}, Dqs G vs (xs.map enc) → (vs.zip (xs.map enc)).map (·.1) = vs ∧ (vs.zip (xs.map enc)).map (·.2) = xs.map enc ∧ ∀ p ∈ vs.zip (xs.map enc), Dq G p.1 p.2
  | [], _, h => by cases h; exact ⟨rfl, rfl, fun p hp => by simp at hp⟩
  | x :: xs, _, h => by
    cases h with
    | cons a b =>
      obtain ⟨e1, e2, e3⟩ := zip_Dq b
      refine ⟨by simp [e1], by simp [e2], fun p hp => ?_⟩
      simp only [List.map_cons, List.zip_cons_cons, List.mem_cons] at hp
      rcases hp with rfl | hp
      · exact a
      · exact e3 p hp
theorem Dqs_of {G : Hp} : ∀ {ps : List (V × PyData)}, (∀ p ∈ ps, Dq G p.1 p.2) → Dqs G (ps.map (·.1)) (ps.map (·.2))
  | [], _ => .nil
  | p :: ps, h => .cons (h p List.mem_cons_self) (Dqs_of fun q hq => h q (List.mem_cons_of_mem _ hq))
theorem rsorted [Ord α] {xs : List α} {G H : Hp} {Q : VK} {a : Addr} {vs : List V} (hd : En.D α ≤ 60) (s : Same G H) (h : H a = some (.lst vs)) (d : Dqs G vs (xs.map enc)) (q : ∀ v G' H', Ext G H G' H' → OwnR G' H' H v (JL (srt xs)) → Q v H') : rSortedD K [.ref a] H Q := by
  obtain ⟨e1, e2, e3⟩ := zip_Dq d
  refine ⟨a, vs.zip (xs.map enc), rfl, by rw [e1]; exact .of h, fun p hp => (Dq.mono s (e3 p hp)).dp, ?_, ?_, fun p hp => ?_, fun p hp => ?_⟩
  · rw [e2]; exact PySem.W.AllAlike.of Ord.al
  · rw [e2]; exact PySem.W.Sortable.others Ord.nn
  · have : p.2 ∈ (vs.zip (xs.map enc)).map (·.2) := List.mem_map.mpr ⟨p, hp, rfl⟩
    rw [e2] at this
    obtain ⟨x, _, hx⟩ := List.mem_map.mp this
    rw [← hx]
    have := En.dp x
    omega
  · have d' : Dqs G (((vs.zip (xs.map enc)).mergeSort (PySem.W.dataLe false (·.2))).map (·.1)) ((srt xs).map enc) := by
      have z : (srt xs).map enc = ((vs.zip (xs.map enc)).mergeSort (PySem.W.dataLe false (·.2))).map (·.2) := by
        unfold srt
        rw [List.map_mergeSort (s := fun x y => PySem.W.dataLe false (fun d : PyData => d) x y) (f := enc) (fun a _ b _ => (Ord.ok a b).symm)]
        have z2 : ((vs.zip (xs.map enc)).mergeSort (PySem.W.dataLe false (·.2))).map (·.2) = ((vs.zip (xs.map enc)).map (·.2)).mergeSort (fun x y => PySem.W.dataLe false (fun d : PyData => d) x y) := List.map_mergeSort (fun a _ b _ => rfl)
        rw [z2, e2]
      rw [z]
      exact Dqs_of fun p hp => e3 p (List.mem_mergeSort.mp hp)
    exact q _ G _ (Ext.new s hp _) (OwnR_JL s (Same.refl _) hp d')
theorem de_sorted [Ord α] {xs : List α} (h : DE ta Δ (.vw (JL xs))) (hd : En.D α ≤ 60 := by decide) : DE (tCB (rSortedD K) (tCons ta tNil)) Δ (.own (JL (srt xs))) :=
  de_cb (da_cons h da_nil) fun vs G H Q s r q => by
    obtain ⟨v, e0, r1⟩ := VRs_one r
    subst e0
    cases r1 with
    | l a b => exact rsorted hd s a (VRs_J.mp b) q
/-! ## tests -/
variable {b c : Bool} {tt tu : TT}
theorem dt_of (h : DE te Δ (.vw (J b))) : DT (tTest te) Δ b := fun n σ G H Q o q => h n σ G H _ o fun v G1 H1 e1 r => ⟨b, VR_bl r, q G1 H1 e1⟩
theorem dt_tB (h : DE te Δ (.vw (J b))) : DT (tB te) Δ b := fun n σ G H Q o q => h n σ G H _ o fun v G1 H1 e1 r => ⟨b, VR_bl r, q G1 H1 e1⟩
theorem dt_and (h : DT tt Δ b) (h2 : b = true → DT tu Δ c) : DT (tAnd tt tu) Δ (b && c) := fun n σ G H Q o q => h n σ G H _ o fun G1 H1 e1 => by
  cases b with
  | true =>
    rw [if_pos rfl]
    exact h2 rfl n σ G1 H1 _ (o.ext e1) fun G2 H2 e2 => q G2 H2 (e1.trans e2)
  | false => exact q G1 H1 e1
theorem dt_or (h : DT tt Δ b) (h2 : b = false → DT tu Δ c) : DT (tOr tt tu) Δ (b || c) := fun n σ G H Q o q => h n σ G H _ o fun G1 H1 e1 => by
  cases b with
  | false =>
    rw [if_neg Bool.false_ne_true]
    exact h2 rfl n σ G1 H1 _ (o.ext e1) fun G2 H2 e2 => q G2 H2 (e1.trans e2)
  | true => exact q G1 H1 e1
theorem dt_not (h : DT tt Δ b) : DT (tNot tt) Δ (!b) := fun n σ G H Q o q => h n σ G H _ o fun G1 H1 e1 => q G1 H1 e1
theorem de_and (h : DE ta Δ (.vw (J b))) (h2 : b = true → DE tb Δ (.own (J c))) : DE (tAndV ta tb) Δ (.own (J (b && c))) := fun n σ G H Q o q => h n σ G H _ o fun v G1 H1 e1 r => ⟨b, VR_bl r, by
  cases b with
  | true =>
    rw [if_pos rfl]
    exact h2 rfl n σ G1 H1 _ (o.ext e1) fun v2 G2 H2 e2 k => q v2 G2 H2 (e1.trans e2) (OwnR.back k e1.sH)
  | false => exact q _ G1 H1 e1 OwnR_bl⟩
theorem de_or (h : DE ta Δ (.vw (J b))) (h2 : b = false → DE tb Δ (.own (J c))) : DE (tOrV ta tb) Δ (.own (J (b || c))) := fun n σ G H Q o q => h n σ G H _ o fun v G1 H1 e1 r => ⟨b, VR_bl r, by
  cases b with
  | false =>
    rw [if_neg Bool.false_ne_true]
    exact h2 rfl n σ G1 H1 _ (o.ext e1) fun v2 G2 H2 e2 k => q v2 G2 H2 (e1.trans e2) (OwnR.back k e1.sH)
  | true => exact q _ G1 H1 e1 OwnR_bl⟩
theorem de_not (h : DE ta Δ (.vw (J b))) : DE (tNotV ta) Δ (.own (J (!b))) := fun n σ G H Q o q => h n σ G H _ o fun v G1 H1 e1 r => ⟨b, VR_bl r, q _ G1 H1 e1 OwnR_bl⟩
theorem de_if {k : Kd} (h : DT tt Δ b) (h1 : b = true → DE ta Δ k) (h2 : b = false → DE tb Δ k) : DE (tIf tt ta tb) Δ k := fun n σ G H Q o q => h n σ G H _ o fun G1 H1 e1 => by
  have fin : ∀ v G2 H2, Ext G1 H1 G2 H2 → KdR n G2 H2 H1 v k → Q v H2 := fun v G2 H2 e2 r => q v G2 H2 (e1.trans e2) (by
    cases k with
    | own t => exact OwnR.back r e1.sH
    | vw t => exact r
    | st t => exact r)
  cases b with
  | true => rw [if_pos rfl]; exact h1 rfl n σ G1 H1 _ (o.ext e1) fin
  | false => rw [if_neg Bool.false_ne_true]; exact h2 rfl n σ G1 H1 _ (o.ext e1) fin
/-- is None, is not None, by the operators' rules: x is y where one is None -/
theorem de_size {k : Kd} (h : DE te Δ k) : DE (tSz K te) Δ k := fun n σ G H Q o q => h n σ G H _ o fun v G1 H1 e1 r _ => q v G1 H1 e1 r
end
end U

set_option Elab.async false
set_option linter.all false
set_option maxRecDepth 100000
set_option maxHeartbeats 4000000
namespace U
open PySem PySem.Spec L2
open En (enc)
/-! ## the state's upkeep -/
section
variable {n : Ent} {Δ Δ' : List Sl} {σ : L2.St} {G H G' H' : Hp} {i : Nat} {v : V} {t : OT}
theorem OkP.len (o : OkP n Δ σ G H) : σ.length = Δ.length := by
  obtain ⟨fp, r, _⟩ := o.sl
  exact r.len
/-- a slot is forgotten -/
theorem OkP.drop (o : OkP n Δ σ G H) (i : Nat) (x : Option V) : OkP n (Δ.set i .no) (σ.set i x) G H := by
  obtain ⟨fp, r, nd, z⟩ := o.sl
  obtain ⟨fp', r', s⟩ := r.drop i x
  exact ⟨o.sG, o.sB, o.g0, o.gf, fp', r', s.nodup nd, fun a ha => z a (s.subset ha)⟩
theorem set_none_get (h : i < Δ.length) : (Δ.set i Sl.no)[i]? = some Sl.no := by
  rw [List.getElem?_set_self h]
/-- .. and filled anew, by what is owned apart -/
theorem OkP.put (o : OkP n Δ σ G H) (hi : i < Δ.length) (e : Ext G H G' H') (r : OwnR G' H' H v t) : OkP n (Δ.set i (.own t)) (σ.set i (some v)) G' H' := by
  have o1 := (o.drop i none).ext e
  obtain ⟨fp, r0, nd, z⟩ := (o.drop i none).sl
  obtain ⟨f, rf, nf, zf⟩ := r
  have r1 : SlO n G' H' (σ.set i none) (Δ.set i .no) fp := r0.mono e.sG e.sH
  obtain ⟨fp', r', pm⟩ := r1.fill (i := i) (set_none_get hi) rf
  rw [List.set_set, List.set_set] at r'
  refine ⟨o1.sG, o1.sB, o1.g0, o1.gf, fp', r', ?_, fun a ha => ?_⟩
  · refine pm.nodup_iff.mpr (List.nodup_append.mpr ⟨nf, nd, fun a ha b hb e => ?_⟩)
    subst e
    obtain ⟨u, h⟩ := r0.dom a hb
    rw [(zf a ha).1] at h; cases h
  · rcases List.mem_append.mp (pm.mem_iff.mp ha) with ha | ha
    · refine ⟨(zf a ha).2, ?_⟩
      cases q : n.B a with
      | none => rfl
      | some u => have := o.sB a u q; rw [(zf a ha).1] at this; cases this
    · refine ⟨e.gn (z a ha).1 ?_, (z a ha).2⟩
      obtain ⟨u, h⟩ := r0.dom a ha
      rw [h]; exact fun z => by cases z
theorem OkP.putV (o : OkP n Δ σ G H) (hi : i < Δ.length) (e : Ext G H G' H') (r : Stb n G' v t) : OkP n (Δ.set i (.vw t)) (σ.set i (some v)) G' H' := by
  have o1 := (o.drop i none).ext e
  obtain ⟨fp, r1, nd, z⟩ := o1.sl
  have r' := r1.fillV (i := i) (set_none_get hi) r
  rw [List.set_set, List.set_set] at r'
  exact ⟨o1.sG, o1.sB, o1.g0, o1.gf, fp, r', nd, z⟩
end
/-! ## targets -/
/-- binding a leaf to a target turns Δ into Δ'; only the slots of is change -/
def GB (g : TG) (m : Mo) (is : List Nat) (Δ Δ' : List Sl) : Prop := ∀ (n : Ent) (σ : L2.St) (G H : Hp) (v : V) (Q : L2.St → Hp → Prop), OkP n Δ σ G H → m.φ G v →
  (∀ σ', OkP n Δ' σ' G H → wipe σ' is = wipe σ is → Q σ' H) → g v σ H Q
theorem wipe_set : ∀ {is : List Nat} {i : Nat} {x : Option V} {σ : L2.St}, i ∈ is → wipe (σ.set i x) is = wipe σ is
  | [], _, _, _, h => by simp at h
  | j :: is, i, x, σ, h => by
    show (wipe (σ.set i x) is).set j none = (wipe σ is).set j none
    by_cases hj : i ∈ is
    · rw [wipe_set hj]
    · have e : i = j := by
        rcases List.mem_cons.mp h with e | e
        · exact e
        · exact absurd e hj
      subst e
      have : ∀ (is : List Nat) (σ : L2.St), (wipe (σ.set i x) is).set i none = (wipe σ is).set i none := by
        intro is
        induction is with
        | nil => intro σ; simp [wipe]
        | cons k is ih =>
          intro σ
          show ((wipe (σ.set i x) is).set k none).set i none = ((wipe σ is).set k none).set i none
          by_cases hk : k = i
          · subst hk; rw [List.set_set, List.set_set, ih]
          · rw [List.set_comm _ _ hk, ih, List.set_comm _ _ hk]
      exact this is σ
theorem gb_name {i : Nat} {m : Mo} {is : List Nat} {Δ : List Sl} (hi : i < Δ.length) (hm : i ∈ is) : GB (gName i) m is Δ (Δ.set i (.own (.p m))) := fun n σ G H v Q o h q => by
  refine q _ (o.put hi (Ext.refl o.sG) (OwnR.leaf h)) (wipe_set hm)
/-- a, b = .. : a tuple of data -/
def GBs (g : TGs) (ds : List PyData) (is : List Nat) (Δ Δ' : List Sl) : Prop := ∀ (n : Ent) (σ : L2.St) (G H : Hp) (vs : List V) (Q : L2.St → Hp → Prop), OkP n Δ σ G H → Dqs G vs ds →
  (∀ σ', OkP n Δ' σ' G H → wipe σ' is = wipe σ is → Q σ' H) → g vs σ H Q
theorem gbs_nil {is : List Nat} {Δ : List Sl} : GBs gNil [] is Δ Δ := fun n σ G H vs Q o h q => by
  cases h
  exact ⟨rfl, q σ o rfl⟩
theorem gbs_cons {i : Nat} {d : PyData} {ds : List PyData} {g : TGs} {is : List Nat} {Δ Δ' : List Sl} (hi : i < Δ.length) (hm : i ∈ is) (r : GBs g ds is (Δ.set i (.own (.p (dat d)))) Δ') : GBs (gCons (gName i) g) (d :: ds) is Δ Δ' := fun n σ G H vs Q o h q => by
  cases h with
  | cons a b =>
    refine ⟨_, _, rfl, ?_⟩
    exact r n _ G H _ Q (o.put hi (Ext.refl o.sG) (OwnR.leaf (m := dat d) a)) b fun σ' o' e => q σ' o' (e.trans (wipe_set hm))
theorem gb_tup {K : PySem.W.Frag} {k : Nat} {g : TGs} {ds : List PyData} {is : List Nat} {Δ Δ' : List Sl} (r : GBs g ds is Δ Δ') (hk : ds.length = k) : GB (gTup K k g) (dat (.tuple ds)) is Δ Δ' := fun n σ G H v Q o h q => by
  have h' : Dq G v (.tuple ds) := h
  cases h' with
  | tup a b => exact ⟨_, _, rfl, .of (o.sG _ _ a), b.len.trans hk, r n σ G H _ Q o b q⟩

/-! ## what is walked -/
def StOk (n : Ent) (st : Bool) (H1 H : Hp) : Prop := if st = true then Same n.B H else Same H1 H
structure ItOk {δ : Type} (n : Ent) (G1 H1 : Hp) (st : Bool) (J : It) (c : δ → Mo) (xs : List δ) : Prop where
  go : ∀ k G H, k < xs.length → Same G1 G → Same G H → StOk n st H1 H → J.go k H
  yl : ∀ k G H x H' d, xs[k]? = some d → Same G1 G → Same G H → StOk n st H1 H → J.yld k H x H' → ∃ G', Ext G H G' H' ∧ (c d).φ G' x
  stop : ∀ G H, Same G1 G → Same G H → StOk n st H1 H → J.stop xs.length H
def DI {δ : Type} (st : Bool) (wi : TI) (Δ : List Sl) (c : δ → Mo) (xs : List δ) : Prop := ∀ (n : Ent) (σ : L2.St) (G H : Hp) (R : It → Hp → Prop), OkP n Δ σ G H →
  (∀ J G' H', Ext G H G' H' → ItOk n G' H' st J c xs → xs.length ≤ sizeLine → R J H') → wi σ H R
section
variable {K : PySem.W.Frag} {te ta tb tl : TE} {tA : TA} {Δ : List Sl} {δ : Type} {c : δ → Mo} {xs : List δ} {α β : Type} [En α] [En β]
theorem StOk.of {n : Ent} {st : Bool} {H1 H : Hp} (s : Same H1 H) (b : Same n.B H1) : StOk n st H1 H := by
  unfold StOk
  cases st with
  | true => rw [if_pos rfl]; exact b.trans s
  | false => rw [if_neg Bool.false_ne_true]; exact s
theorem DI.weak {wi : TI} (h : DI true wi Δ c xs) : DI false wi Δ c xs := fun n σ G H R o q => h n σ G H R o fun J G' H' e it z => q J G' H' e
  ⟨fun k G2 H2 hk a b s => it.go k G2 H2 hk a b (by
    have s' : Same H' H2 := by simpa [StOk] using s
    simpa [StOk] using ((o.ext e).sB).trans s'), fun k G2 H2 x H3 d hd a b s y => it.yl k G2 H2 x H3 d hd a b (by
    have s' : Same H' H2 := by simpa [StOk] using s
    simpa [StOk] using ((o.ext e).sB).trans s') y, fun G2 H2 a b s => it.stop G2 H2 a b (by
    have s' : Same H' H2 := by simpa [StOk] using s
    simpa [StOk] using ((o.ext e).sB).trans s')⟩ z
/-- a list whose place and leaves are known whenever the conditions hold -/
theorem itl_ok {n : Ent} {G1 H1 : Hp} {st : Bool} {a : Addr} (h : ∀ G H, Same G1 G → Same G H → StOk n st H1 H → ∃ vs, SqL K H a vs ∧ VRs G H vs (xs.map fun x => .p (c x))) : ItOk n G1 H1 st (Itl K a) c xs where
  go := fun k G H hk s1 s2 s3 => by
    obtain ⟨vs, h1, h2⟩ := h G H s1 s2 s3
    have hl : k < vs.length := by rw [h2.len]; simpa using hk
    exact ⟨vs, vs[k], h1, by simp [hl]⟩
  yl := fun k G H x H' d hd s1 s2 s3 y => by
    obtain ⟨vs, h1, h2⟩ := h G H s1 s2 s3
    obtain ⟨rfl, y⟩ := y
    obtain ⟨w, hw, rw'⟩ := h2.at (i := k) (t := .p (c d)) (by rw [List.getElem?_map, hd]; rfl)
    have := y vs h1
    rw [hw] at this
    cases this
    refine ⟨G, Ext.refl s2, ?_⟩
    cases rw' with
    | p q => exact q
  stop := fun G H s1 s2 s3 => by
    obtain ⟨vs, h1, h2⟩ := h G H s1 s2 s3
    exact ⟨vs, h1, by rw [h2.len]; simp⟩
theorem SqL_inj {H : Hp} {a : Addr} {vs ys : List V} (h : H a = some (.lst vs)) (h' : H a = some (.lst ys)) : ys = vs := by
  rw [h] at h'; cases h'; rfl
end
end U

set_option Elab.async false
set_option linter.all false
set_option maxRecDepth 100000
set_option maxHeartbeats 4000000
namespace U
open PySem PySem.Spec L2
open En (enc)
section
variable {K : PySem.W.Frag} {te ta tb tl : TE} {tA : TA} {Δ : List Sl} {δ : Type} {c : δ → Mo} {xs : List δ} {α β : Type} [En α] [En β] {t : OT}
theorem VRs_leafs {G H G' H' : Hp} (s : Same G G') : ∀ {xs : List δ} {vs : List V}, VRs G H vs (xs.map fun x => .p (c x)) → VRs G' H' vs (xs.map fun x => .p (c x))
  | [], _, h => by cases h; exact .nil
  | x :: xs, _, h => by
    cases h with
    | cons a b =>
      cases a with
      | p a => exact .cons (.p ((c x).mono _ _ _ s a)) (VRs_leafs s b)
/-- over a list that is seen now -/
theorem di_listV (h : DE tl Δ (.vw (.l (xs.map fun x => .p (c x))))) : DI false (iList K (tSz K tl)) Δ c xs := fun n σ G H R o q => h n σ G H _ o fun v G1 H1 e1 r hz => by
  cases r with
  | l a b =>
    refine ⟨_, rfl, ⟨_, .of a⟩, q _ G1 H1 e1 (itl_ok fun G H s1 s2 s3 => ?_) ?_⟩
    · have s3' : Same H1 H := by simpa [StOk] using s3
      exact ⟨_, .of (s3' _ _ a), VRs_leafs s1 b⟩
    · have z1 := hz _ _ rfl (.inl (.of a))
      have z2 := b.len
      simp only [List.length_map] at z2
      omega
/-- over a list that stays -/
theorem di_listS (h : DE tl Δ (.st (.l (xs.map fun x => .p (c x))))) : DI true (iList K (tSz K tl)) Δ c xs := fun n σ G H R o q => h n σ G H _ o fun v G1 H1 e1 r hz => by
  have r0 := r G1 H1 (Same.refl _) e1.gh (o.ext e1).sB
  cases r0 with
  | @l a vs ts h0 b0 =>
    refine ⟨_, rfl, ⟨_, .of h0⟩, q _ G1 H1 e1 (itl_ok fun G H s1 s2 s3 => ?_) ?_⟩
    · have s3' : Same n.B H := by simpa [StOk] using s3
      have r1 := r G H s1 s2 s3'
      cases r1 with
      | l h1 b1 => exact ⟨_, .of h1, b1⟩
    · have z1 := hz _ _ rfl (.inl (.of h0))
      have z2 := b0.len
      simp only [List.length_map] at z2
      omega
/-- over a fresh list of leaves -/
theorem di_listO (h : DE tl Δ (.own (.l (xs.map fun x => .p (c x))))) : DI true (iList K (tSz K tl)) Δ c xs := fun n σ G H R o q => h n σ G H _ o fun v G1 H1 e1 ⟨fp, r, nd, z⟩ hz => by
  cases r with
  | @l a vs ts fp h0 b0 =>
    have za := z a List.mem_cons_self
    have s1 : Same G1 (upd G1 a (.lst vs)) := fun b u e => by rw [upd_ne (ne_of_none e za.2)]; exact e
    have e2 : Ext G H (upd G1 a (.lst vs)) H1 := by
      refine ⟨e1.sH, e1.sG.trans s1, fun b u e => ?_, fun b u e => ?_⟩
      · by_cases hb : b = a
        · subst hb; rw [upd_same] at e; rw [h0]; exact e
        · rw [upd_ne hb] at e; exact e1.gh _ _ e
      · by_cases hb : b = a
        · subst hb; exact .inr za.1
        · rw [upd_ne hb] at e; exact e1.fr _ _ e
    have b1 : VRs G1 H1 vs (xs.map fun x => .p (c x)) := b0.see
    refine ⟨_, rfl, ⟨_, .of h0⟩, q _ _ H1 e2 (itl_ok fun G H sa sb sc => ?_) ?_⟩
    · exact ⟨_, .of (sb _ _ (sa _ _ upd_same)), VRs_leafs (s1.trans sa) b1⟩
    · have z1 := hz _ _ rfl (.inl (.of h0))
      have z2 := b1.len
      simp only [List.length_map] at z2
      omega
/-- over a tuple of data -/
theorem di_tup {xs : Tu α} (h : DE tl Δ (.vw (J xs))) : DI true (iTup K (tSz K tl)) Δ (fun x : α => dat (enc x)) xs.l := fun n σ G H R o q => h n σ G H _ o fun v G1 H1 e1 r hz => by
  cases r with
  | p r =>
    have r' : Dq G1 v (.tuple (xs.l.map enc)) := r
    cases r' with
    | @tup a vs ds h0 b0 =>
      have h1 := e1.gh _ _ h0
      refine ⟨_, rfl, ⟨_, .of h1⟩, q _ G1 H1 e1 ⟨fun k G H hk s1 s2 s3 => ?_, fun k G H x H' d hd s1 s2 s3 y => ?_, fun G H s1 s2 s3 => ?_⟩ ?_⟩
      · have hl : k < vs.length := by rw [b0.len]; simpa using hk
        exact ⟨vs, vs[k], .of (s2 _ _ (s1 _ _ h0)), by simp [hl]⟩
      · obtain ⟨rfl, y⟩ := y
        obtain ⟨w, hw, rw'⟩ := b0.at (i := k) (d := enc d) (by rw [List.getElem?_map, hd]; rfl)
        have := y vs (.of (s2 _ _ (s1 _ _ h0)))
        rw [hw] at this
        cases this
        exact ⟨G, Ext.refl s2, Dq.mono s1 rw'⟩
      · exact ⟨vs, .of (s2 _ _ (s1 _ _ h0)), by rw [b0.len]; simp⟩
      · have z1 := hz _ _ rfl (.inr (.of h1))
        have z2 := b0.len
        simp only [List.length_map] at z2
        omega
/-- over range(n) -/
theorem di_range1 {m : Nat} (h : DA tA Δ [J m]) (hm : m ≤ sizeLine) : DI true (iRng1 tA) Δ (fun k : Nat => dat (enc k)) (List.range m) := fun n σ G H R o q => h n σ G H _ o fun vs G1 H1 e1 r => by
  obtain ⟨v, e0, r1⟩ := VRs_one r
  subst e0
  have e2 := VR_nat r1
  subst e2
  have hz := sizeLine_eq
  refine ⟨m, rfl, by omega, by omega, ?_⟩
  have : ((m : Nat) : Int).toNat = m := by simp
  rw [this]
  refine q _ G1 H1 e1 ⟨fun k G H hk _ _ _ => (by simpa using hk : k < m), fun k G H x H' d hd _ s2 _ y => ?_, fun G H _ _ _ => by simp [Itr]⟩ (by simpa using hm)
  obtain ⟨rfl, rfl⟩ := y
  have ed : d = k := by
    obtain ⟨_, e⟩ := List.getElem?_eq_some_iff.mp hd
    simpa using e.symm
  subst ed
  refine ⟨G, Ext.refl s2, ?_⟩
  have : (0 : Int) + (d : Int) = d := by omega
  rw [this]
  exact .int _

/-! ## comprehensions -/
def wipeS (Δ : List Sl) : List Nat → List Sl
  | [] => Δ
  | i :: is => (wipeS Δ is).set i .no
theorem OkP.wipe {n : Ent} {σ : L2.St} {G H : Hp} (o : OkP n Δ σ G H) : ∀ is : List Nat, OkP n (wipeS Δ is) (L2.wipe σ is) G H
  | [] => o
  | i :: is => (OkP.wipe o is).drop i none
theorem same_aft {H H' : Hp} {D : Addr} {o : HO} (s : Same H H') (n : H D = none) : Same H (upd H' D o) := fun b u e => by rw [upd_ne (ne_of_none e n)]; exact s b u e
theorem lc_any {ms : List δ} {J : It} {g : TG} {tt : TT} {te : TE} {is : List Nat} {σ : L2.St} {n : Ent} {G1 H1 : Hp} {D : Addr} {Qd : Hp → Prop} (Pv : Nat → Hp → Prop) (h0 : Pv 0 (upd H1 D (.lst [])))
    (hs : ∀ k x H, ms[k]? = some x → Pv k H → J.go k H ∧ ∀ v H', J.yld k H v H' → g v (L2.wipe σ is) H' fun σ2 H2 => L2.wipe σ2 is = L2.wipe σ is ∧ tt σ2 H2 fun b H3 =>
      if b = true then te σ2 H3 fun y H4 => ∃ acc, H4 D = some (.lst acc) ∧ acc.length < sizeLine ∧ Pv (k + 1) (upd H4 D (.lst (acc ++ [y]))) else Pv (k + 1) H3) (hd : ∀ H, Pv ms.length H → J.stop ms.length H ∧ Qd H) :
    ∃ W : Nat → Nat → Hp → Prop, (∃ m, W 0 m (upd H1 D (.lst []))) ∧ ∀ i m H, W i m H →
      (J.stop i H ∧ Qd H) ∨ (J.go i H ∧ ∃ Nx : Hp → Prop, (∀ H', Nx H' → ∃ m', m' < m ∧ W (i + 1) m' H') ∧ ∀ x H', J.yld i H x H' → g x (L2.wipe σ is) H' fun σ2 H2 => L2.wipe σ2 is = L2.wipe σ is ∧ tt σ2 H2 fun b H3 =>
        if b = true then te σ2 H3 fun y H4 => ∃ acc, H4 D = some (.lst acc) ∧ acc.length < sizeLine ∧ Nx (upd H4 D (.lst (acc ++ [y]))) else Nx H3) := by
  refine ⟨fun i m H => m = ms.length - i ∧ i ≤ ms.length ∧ Pv i H, ⟨ms.length, by simp, Nat.zero_le _, h0⟩, ?_⟩
  rintro i m H ⟨rfl, hi, p⟩
  by_cases hlt : i < ms.length
  · obtain ⟨a, b⟩ := hs i ms[i] H (by simp [hlt]) p
    exact .inr ⟨a, Pv (i + 1), fun H' p' => ⟨ms.length - (i + 1), by omega, rfl, hlt, p'⟩, b⟩
  · have e : i = ms.length := by omega
    subst e
    exact .inl (hd H p)
/-- what is made so far -/
structure LcI (G1 H1 : Hp) (D : Addr) (ts : List OT) (H : Hp) : Prop where
  ex : ∃ G vs fp, Same G1 G ∧ Same G H ∧ Same H1 H ∧ (∀ a o, G a = some o → G1 a = some o ∨ H1 a = none) ∧ H D = some (.lst vs) ∧ G D = none ∧ ORs G H vs ts fp ∧ fp.Nodup ∧ ∀ a ∈ fp, H1 a = none ∧ G a = none ∧ a ≠ D
theorem ORs_app {G H : Hp} : ∀ {vs us : List V} {ts rs : List OT} {f f' : List Addr}, ORs G H vs ts f → ORs G H us rs f' → ORs G H (vs ++ us) (ts ++ rs) (f ++ f')
  | _, _, _, _, _, _, .nil, r => r
  | _, _, _, _, _, f', @ORs.cons _ _ v vs t ts f0 fs a b, r => by
    rw [List.append_assoc]
    exact ORs.cons a (ORs_app b r)
theorem take_succ_map {ε : Type} {p : δ → Bool} {g : δ → ε} {ms : List δ} {k : Nat} {x : δ} (h : ms[k]? = some x) : ((ms.take (k + 1)).filter p).map g = ((ms.take k).filter p).map g ++ if p x = true then [g x] else [] := by
  rw [List.take_add_one, h]
  simp only [Option.toList_some, List.filter_append, List.map_append]
  congr 1
  by_cases hp : p x = true
  · simp [hp]
  · simp [hp]
/-- [e for target in walk if test] -/
theorem de_lc {wi : TI} {g : TG} {tt : TT} {is : List Nat} {Δx : δ → List Sl} {p : δ → Bool} {gt : δ → OT} (hi : DI false wi Δ c xs) (hg : ∀ x ∈ xs, GB g (c x) is (wipeS Δ is) (Δx x)) (ht : ∀ x ∈ xs, DT tt (Δx x) (p x))
    (he : ∀ x ∈ xs, p x = true → DE te (Δx x) (.own (gt x))) : DE (tLc wi g tt te is) Δ (.own (.l ((xs.filter p).map gt))) := fun n σ G H Q o q => hi n σ G H _ o fun J G1 H1 e1 it hz => by
  intro D hD
  have o1 := o.ext e1
  refine lc_any (ms := xs) (n := n) (G1 := G1) (fun k H' => LcI G1 H1 D (((xs.take k).filter p).map gt) H') ?_ ?_ ?_
  · refine ⟨G1, [], [], Same.refl _, same_aft e1.gh (L2.Same.free e1.gh hD), same_aft (Same.refl _) hD, fun a o h => .inl h, upd_same, L2.Same.free e1.gh hD, .nil, List.nodup_nil, fun a ha => by simp at ha⟩
  · rintro k x H2 hx ⟨G2, vs, fp, s1, s2, s3, fr, hl, gD, r, nd, z⟩
    have hmem : x ∈ xs := List.mem_of_getElem? hx
    have s3' : StOk n false H1 H2 := by simpa [StOk] using s3
    refine ⟨it.go k G2 H2 (List.getElem?_eq_some_iff.mp hx).1 s1 s2 s3', fun v H3 y => ?_⟩
    obtain ⟨G3, e3, hv⟩ := it.yl k G2 H2 v H3 x hx s1 s2 s3' y
    have e12 : Ext G1 H1 G2 H2 := ⟨s3, s1, s2, fr⟩
    have o3 : OkP n (wipeS Δ is) (L2.wipe σ is) G3 H3 := (o1.wipe is).ext (e12.trans e3)
    refine hg x hmem n _ G3 H3 v _ o3 hv fun σ4 o4 ew => ⟨?_, ?_⟩
    · rw [ew]
      have : ∀ is : List Nat, L2.wipe (L2.wipe σ is) is = L2.wipe σ is := by
        intro is
        have key : ∀ (js is : List Nat) (σ : L2.St), (∀ j ∈ js, j ∈ is) → L2.wipe (L2.wipe σ js) is = L2.wipe σ is := by
          intro js
          induction js with
          | nil => intro is σ _; rfl
          | cons j js ih =>
            intro is σ hj
            show L2.wipe ((L2.wipe σ js).set j none) is = L2.wipe σ is
            rw [wipe_set (hj j List.mem_cons_self), ih is σ fun i hi => hj i (List.mem_cons_of_mem _ hi)]
        exact key is is σ fun j hj => hj
      exact this is
    · refine ht x hmem n σ4 G3 H3 _ o4 fun G5 H5 e5 => ?_
      have eA : Ext G2 H2 G5 H5 := e3.trans e5
      by_cases hp : p x = true
      · rw [if_pos hp]
        refine he x hmem hp n σ4 G5 H5 _ (o4.ext e5) fun w G6 H6 e6 ⟨f6, r6, n6, z6⟩ => ?_
        have eB := eA.trans e6
        have hlD : H6 D = some (.lst vs) := eB.sH _ _ hl
        refine ⟨vs, hlD, ?_, ?_⟩
        · have a1 := r.len
          have a2 : (((xs.take k).filter p).map gt).length ≤ k := by
            rw [List.length_map]
            refine Nat.le_trans (List.length_filter_le _ _) ?_
            rw [List.length_take]; omega
          have a3 := (List.getElem?_eq_some_iff.mp hx).1
          omega
        · have gD6 : G6 D = none := eB.gn gD (by rw [hl]; exact fun z => by cases z)
          have nD : D ∉ f6 := fun hd => by
            have := (z6 D hd).1
            rw [e5.sH _ _ (e3.sH _ _ hl)] at this; cases this
          have nDf : D ∉ fp := fun hd => (z D hd).2.2 rfl
          refine ⟨G6, vs ++ [w], fp ++ f6, s1.trans eB.sG, fun b u e => ?_, same_aft (s3.trans eB.sH) hD, fun a u h => ?_, upd_same, gD6, ?_, ?_, fun a ha => ?_⟩
          · rw [upd_ne (ne_of_none e gD6)]; exact eB.gh _ _ e
          · rcases eB.fr a u h with h | h
            · exact fr a u h
            · exact .inr (s3.free h)
          · rw [take_succ_map hx, if_pos hp]
            have ra := (r.mono eB.sG eB.sH).aft (a := D) (o := .lst (vs ++ [w])) nDf
            have rb := r6.aft (a := D) (o := .lst (vs ++ [w])) nD
            have := ORs_app ra (ORs.cons rb .nil)
            simpa using this
          · refine List.nodup_append.mpr ⟨nd, n6, fun a ha b hb e => ?_⟩
            subst e
            obtain ⟨u, h⟩ := r.dom a ha
            have := (z6 a hb).1
            rw [eA.sH _ _ h] at this; cases this
          · rcases List.mem_append.mp ha with ha | ha
            · obtain ⟨u, h⟩ := r.dom a ha
              exact ⟨(z a ha).1, eB.gn (z a ha).2.1 (by rw [h]; exact fun z => by cases z), (z a ha).2.2⟩
            · refine ⟨(s3.trans eA.sH).free (z6 a ha).1, (z6 a ha).2, fun e => nD (e ▸ ha)⟩
      · rw [if_neg hp]
        refine ⟨G5, vs, fp, s1.trans eA.sG, e5.gh, s3.trans eA.sH, fun a u h => ?_, eA.sH _ _ hl, eA.gn gD (by rw [hl]; exact fun z => by cases z), ?_, nd, fun a ha => ?_⟩
        · rcases eA.fr a u h with h | h
          · exact fr a u h
          · exact .inr (s3.free h)
        · rw [take_succ_map hx, if_neg hp, List.append_nil]
          exact r.mono eA.sG eA.sH
        · obtain ⟨u, h⟩ := r.dom a ha
          exact ⟨(z a ha).1, eA.gn (z a ha).2.1 (by rw [h]; exact fun z => by cases z), (z a ha).2.2⟩
  · rintro H2 ⟨G2, vs, fp, s1, s2, s3, fr, hl, gD, r, nd, z⟩
    rw [List.take_length] at r
    have s3' : StOk n false H1 H2 := by simpa [StOk] using s3
    refine ⟨it.stop G2 H2 s1 s2 s3', q _ G2 H2 (e1.trans ⟨s3, s1, s2, fr⟩) ⟨D :: fp, .l hl r, List.nodup_cons.mpr ⟨fun hd => (z D hd).2.2 rfl, nd⟩, fun a ha => ?_⟩⟩
    rcases List.mem_cons.mp ha with rfl | ha
    · exact ⟨e1.sH.free hD, gD⟩
    · exact ⟨e1.sH.free (z a ha).1, (z a ha).2.1⟩
end
end U

set_option Elab.async false
set_option linter.all false
set_option maxRecDepth 100000
set_option maxHeartbeats 4000000
namespace U
open PySem PySem.Spec L2
open En (enc)
section
variable {K : PySem.W.Frag} {te ta tb tl : TE} {tA : TA} {tt : TT} {t u : TS} {Δ Δ' : List Sl} {δ : Type} {c : δ → Mo} {xs : List δ} {P : Pst} {i j : Nat} {r : OT} {m : Mo}

/-! ## statements -/
theorem ds_nx (h : P.nx Δ) : DS tNext Δ P := fun n σ G H D o s => s.nx Δ σ G H h o
theorem ds_bk (h : P.bk Δ) : DS tBreak Δ P := fun n σ G H D o s => s.bk Δ σ G H h o
theorem ds_ct (h : P.ct Δ) : DS tCont Δ P := fun n σ G H D o s => s.ct Δ σ G H h o
theorem ds_seq {M : List Sl → Prop} (h1 : DS t Δ { P with nx := M }) (h2 : ∀ Δ', M Δ' → DS u Δ' P) : DS (tSeq t u) Δ P := fun n σ G H D o s =>
  h1 n σ G H { D with nx := u D } o ⟨fun Δ' σ' G' H' h o' => h2 Δ' h n σ' G' H' D o' s, s.rt, s.bk, s.ct⟩
/-- .. where the slots behind the first are known -/
theorem ds_then (h1 : DS t Δ { P with nx := fun Δ' => Δ' = Δ₁ }) (h2 : DS u Δ₁ P) : DS (tSeq t u) Δ P := ds_seq h1 fun Δ' e => e ▸ h2
theorem DS.mono {P' : Pst} (h : DS t Δ P) (a : ∀ Δ, P.nx Δ → P'.nx Δ) (b : ∀ r Δ, P.rt r Δ → P'.rt r Δ) (c : ∀ Δ, P.bk Δ → P'.bk Δ) (d : ∀ Δ, P.ct Δ → P'.ct Δ) : DS t Δ P' := fun n σ G H D o s =>
  h n σ G H D o ⟨fun Δ σ G H x o => s.nx Δ σ G H (a Δ x) o, fun r Δ σ v G H x o => s.rt r Δ σ v G H (b r Δ x) o, fun Δ σ G H x o => s.bk Δ σ G H (c Δ x) o, fun Δ σ G H x o => s.ct Δ σ G H (d Δ x) o⟩
/-- name = e, e new or a leaf -/
theorem ds_set (h : DE te Δ (.own r)) (hi : i < Δ.length) (hn : P.nx (Δ.set i (.own r))) : DS (tAsg te (gName i)) Δ P := fun n σ G H D o s =>
  h n σ G H _ o fun v G1 H1 e1 w => s.nx _ _ G1 H1 hn (o.put hi e1 w)
/-- name = e, e seen and staying -/
theorem ds_setV (h : DE te Δ (.st r)) (hi : i < Δ.length) (hn : P.nx (Δ.set i (.vw r))) : DS (tAsg te (gName i)) Δ P := fun n σ G H D o s =>
  h n σ G H _ o fun v G1 H1 e1 w => s.nx _ _ G1 H1 hn (o.putV hi e1 w)
/-- a, b = e, e a tuple of data -/
theorem ds_tup {k : Nat} {g : TGs} {ds : List PyData} {is : List Nat} (h : DE te Δ (.own (.p (dat (.tuple ds))))) (hg : GBs g ds is Δ Δ') (hk : ds.length = k) (hn : P.nx Δ') : DS (tAsg te (gTup K k g)) Δ P := fun n σ G H D o s =>
  h n σ G H _ o fun v G1 H1 e1 ⟨fp, w, _⟩ => by
    cases w with
    | p w => exact gb_tup (K := K) hg hk n σ G1 H1 v D.nx (o.ext e1) w fun σ' o' _ => s.nx Δ' σ' G1 H1 hn o'
/-- return e -/
theorem ds_ret (h : DE te Δ (.own r)) (hn : P.rt r Δ) : DS (tRet te) Δ P := fun n σ G H D o s =>
  h n σ G H _ o fun v G1 H1 e1 w => by
    have o1 := (o.drop 0 none).ext e1
    refine s.rt r Δ σ v G1 H1 hn ?_
    -- the result beside the slots: as a slot in front
    obtain ⟨fp, r0, nd, z⟩ := o.sl
    obtain ⟨f, rf, nf, zf⟩ := w
    have oo := o.ext e1
    refine ⟨oo.sG, oo.sB, oo.g0, oo.gf, f ++ fp, .own rf (r0.mono e1.sG e1.sH), ?_, fun a ha => ?_⟩
    · refine List.nodup_append.mpr ⟨nf, nd, fun a ha b hb e => ?_⟩
      subst e
      obtain ⟨u, h⟩ := r0.dom a hb
      rw [(zf a ha).1] at h; cases h
    · rcases List.mem_append.mp ha with ha | ha
      · refine ⟨(zf a ha).2, ?_⟩
        cases q : n.B a with
        | none => rfl
        | some u => have := o.sB a u q; rw [(zf a ha).1] at this; cases this
      · refine ⟨e1.gn (z a ha).1 ?_, (z a ha).2⟩
        obtain ⟨u, h⟩ := r0.dom a ha
        rw [h]; exact fun z => by cases z
/-- return name, an owned one -/
theorem ds_retO (h : Δ[i]? = some (.own r)) (hn : P.rt r (Δ.set i .no)) : DS (tRet (tVar i)) Δ P := fun n σ G H D o s => by
  obtain ⟨fp, r0, nd, z⟩ := o.sl
  obtain ⟨v, f, fp', e, w, r1, pm⟩ := r0.pick h
  refine ⟨v, e, s.rt r _ σ v G H hn ⟨o.sG, o.sB, o.g0, o.gf, f ++ fp', .own w r1, pm.nodup_iff.mpr nd, fun a ha => z a (pm.mem_iff.mp ha)⟩⟩
/-- name = name, an owned one: it goes over -/
theorem ds_move (h : Δ[j]? = some (.own r)) (hi : i < Δ.length) (hij : i ≠ j) (hn : P.nx ((Δ.set j .no).set i (.own r))) : DS (tAsg (tVar j) (gName i)) Δ P := fun n σ G H D o s => by
  obtain ⟨fp, r0, nd, z⟩ := o.sl
  obtain ⟨v, f, fp', e, w, r1, pm⟩ := r0.pick h
  obtain ⟨fp2, r2, sub⟩ := r1.drop i (none : Option V)
  have hl : i < (Δ.set j .no).length := by simpa using hi
  obtain ⟨fp3, r3, pm3⟩ := r2.fill (i := i) (v := v) (set_none_get hl) w
  rw [List.set_set, List.set_set] at r3
  have nd1 : (f ++ fp').Nodup := pm.nodup_iff.mpr nd
  have sub2 : (f ++ fp2).Sublist (f ++ fp') := sub.append_left f
  refine ⟨v, e, s.nx _ _ G H hn ⟨o.sG, o.sB, o.g0, o.gf, fp3, r3, pm3.nodup_iff.mpr (sub2.nodup nd1), fun a ha => z a (pm.mem_iff.mp (sub2.subset (pm3.mem_iff.mp ha)))⟩⟩
theorem ds_retN (hn : P.rt (J ()) Δ) : DS tRetN Δ P := fun n σ G H D o s => by
  have := ds_ret (P := P) (Δ := Δ) (te := tC .non) de_non hn n σ G H D o s
  exact this
theorem ds_if {b : Bool} (h : DT tt Δ b) (h1 : b = true → DS t Δ P) (h2 : b = false → DS u Δ P) : DS (tIfS tt t u) Δ P := fun n σ G H D o s => h n σ G H _ o fun G1 H1 e1 => by
  cases b with
  | true => rw [if_pos rfl]; exact h1 rfl n σ G1 H1 D (o.ext e1) s
  | false => rw [if_neg Bool.false_ne_true]; exact h2 rfl n σ G1 H1 D (o.ext e1) s
/-- an expression whose value is dropped -/
theorem ds_drop {k : Kd} (h : DE te Δ k) (hn : P.nx Δ) : DS (tDrop te) Δ P := fun n σ G H D o s => h n σ G H _ o fun v G1 H1 e1 _ => s.nx Δ σ G1 H1 hn (o.ext e1)
/-- a slot is forgotten -/
theorem OkP.forget {n : Ent} {σ : L2.St} {G H : Hp} (o : OkP n Δ σ G H) (i : Nat) : OkP n (Δ.set i .no) σ G H := by
  have := o.drop i (σ[i]?.getD none)
  have e : σ.set i (σ[i]?.getD none) = σ := by
    apply List.ext_getElem?
    intro k
    by_cases hk : i = k
    · subst hk
      by_cases hl : i < σ.length
      · rw [List.getElem?_set_self hl, List.getElem?_eq_getElem hl]; rfl
      · rw [List.getElem?_eq_none (by simp; omega), List.getElem?_eq_none (by omega)]
    · rw [List.getElem?_set_ne hk]
  rwa [e] at this
theorem ds_forget (i : Nat) (h : DS t (Δ.set i .no) P) : DS t Δ P := fun n σ G H D o s => h n σ G H D (o.forget i) s
/-! ## loops -/
theorem SlO.re {n n' : Ent} {G H : Hp} (e : n.B = n'.B) : ∀ {σ : L2.St} {Δ : List Sl} {fp : List Addr}, SlO n G H σ Δ fp → SlO n' G H σ Δ fp
  | _, _, _, .nil => .nil
  | _, _, _, .no r => .no (SlO.re e r)
  | _, _, _, .own h r => .own h (SlO.re e r)
  | _, _, _, .vw h r => .vw (fun G2 H2 a b c => h G2 H2 a b (by rw [e]; exact c)) (SlO.re e r)
/-- the frozen part of now may count as that of the entry -/
theorem OkP.up {n : Ent} {G1 : Hp} {σ : L2.St} {G H : Hp} (g : Same n.G0 G1) (o : OkP n Δ σ G H) (s : Same G1 G) : OkP { n with G0 := G1 } Δ σ G H := by
  obtain ⟨fp, r, nd, z⟩ := o.sl
  exact ⟨o.sG, o.sB, s, fun a u h => (o.gf a u h).elim (fun q => .inl (g _ _ q)) .inr, fp, SlO.re (n := n) (n' := { n with G0 := G1 }) rfl r, nd, z⟩
theorem OkP.down {n : Ent} {G1 : Hp} {σ : L2.St} {G H : Hp} (g : Same n.G0 G1) (f : ∀ a u, G1 a = some u → n.G0 a = some u ∨ n.B a = none) (o : OkP { n with G0 := G1 } Δ σ G H) : OkP n Δ σ G H := by
  obtain ⟨fp, r, nd, z⟩ := o.sl
  exact ⟨o.sG, o.sB, g.trans o.g0, fun a u h => (o.gf a u h).elim (f a u) .inr, fp, SlO.re (n := { n with G0 := G1 }) (n' := n) rfl r, nd, z⟩
/-- for target in walk -/
theorem ds_for {wi : TI} {g : TG} {is : List Nat} (I : Nat → List Sl → Prop) (hi : DI true wi Δ c xs) (h0 : I 0 Δ) (hs : ∀ k x Δk, xs[k]? = some x → I k Δk → ∃ Δ', GB g (c x) is Δk Δ' ∧ DS t Δ' { P with nx := I (k + 1), ct := I (k + 1), bk := P.nx })
    (hd : ∀ Δk, I xs.length Δk → P.nx Δk) : DS (tFor wi g t) Δ P := fun n σ G H D o s => hi n σ G H _ o fun J G1 H1 e1 it hz => by
  refine ⟨fun k m σ' H' => m = xs.length - k ∧ k ≤ xs.length ∧ ∃ Δk G', Same G1 G' ∧ I k Δk ∧ OkP n Δk σ' G' H', ⟨_, rfl, Nat.zero_le _, Δ, G1, Same.refl _, h0, o.ext e1⟩, ?_⟩
  rintro k m σ2 H2 ⟨rfl, hk, Δk, G2, s1, hI, o2⟩
  have hst : StOk n true H1 H2 := by simpa [StOk] using o2.sB
  by_cases hlt : k < xs.length
  · have hx : xs[k]? = some xs[k] := by simp [hlt]
    refine .inr ⟨it.go k G2 H2 hlt s1 o2.sG hst, fun σ' H' => ∃ Δk G', Same G1 G' ∧ I (k + 1) Δk ∧ OkP n Δk σ' G' H', fun σ' H' h => ⟨xs.length - (k + 1), by omega, rfl, hlt, h⟩, fun v H3 y => ?_⟩
    obtain ⟨G3, e3, hv⟩ := it.yl k G2 H2 v H3 _ hx s1 o2.sG hst y
    obtain ⟨Δ', gb, ds⟩ := hs k _ Δk hx hI
    refine gb n σ2 G3 H3 v _ (o2.ext e3) hv fun σ4 o4 _ => ?_
    have oa := o.ext e1
    have dn : ∀ {Δ : List Sl} {σ : L2.St} {G H : Hp}, OkP { n with G0 := G1 } Δ σ G H → OkP n Δ σ G H := fun o' => o'.down oa.g0 oa.gf
    refine ds { n with G0 := G1 } σ4 G3 H3 _ (o4.up oa.g0 (s1.trans e3.sG)) ⟨?_, ?_, ?_, ?_⟩
    · exact fun Δ5 σ5 G5 H5 h o5 => ⟨Δ5, G5, o5.g0, h, dn o5⟩
    · exact fun r Δ5 σ5 v5 G5 H5 h o5 => s.rt r Δ5 σ5 v5 G5 H5 h (dn o5)
    · exact fun Δ5 σ5 G5 H5 h o5 => s.nx Δ5 σ5 G5 H5 h (dn o5)
    · exact fun Δ5 σ5 G5 H5 h o5 => ⟨Δ5, G5, o5.g0, h, dn o5⟩
  · have e : k = xs.length := by omega
    subst e
    exact .inl ⟨it.stop G2 H2 s1 o2.sG hst, s.nx Δk σ2 G2 H2 (hd Δk hI) o2⟩
/-- while test: an invariant with a measure -/
theorem ds_while (I : Nat → List Sl → Prop) (m0 : Nat) (h0 : I m0 Δ) (hs : ∀ m Δk, I m Δk → ∃ b, DT tt Δk b ∧ (b = true → DS t Δk { P with nx := fun Δ' => ∃ m', m' < m ∧ I m' Δ', ct := fun Δ' => ∃ m', m' < m ∧ I m' Δ', bk := P.nx }) ∧ (b = false → P.nx Δk)) : DS (tWhile tt t) Δ P := fun n σ G H D o s => by
  refine ⟨fun m σ' H' => ∃ Δk G', I m Δk ∧ OkP n Δk σ' G' H', ⟨m0, Δ, G, h0, o⟩, ?_⟩
  rintro m σ2 H2 ⟨Δk, G2, hI, o2⟩
  obtain ⟨b, a, hb, hc⟩ := hs m Δk hI
  refine a n σ2 G2 H2 _ o2 fun G3 H3 e3 => ?_
  by_cases q : b = true
  · rw [if_pos q]
    refine ⟨fun σ' H' => ∃ m', m' < m ∧ ∃ Δk G', I m' Δk ∧ OkP n Δk σ' G' H', fun σ' H' ⟨m', hm, h⟩ => ⟨m', hm, h⟩, ?_⟩
    refine hb q n σ2 G3 H3 _ (o2.ext e3) ⟨?_, ?_, ?_, ?_⟩
    · exact fun Δ5 σ5 G5 H5 ⟨m', hm, h⟩ o5 => ⟨m', hm, Δ5, G5, h, o5⟩
    · exact fun r Δ5 σ5 v5 G5 H5 h o5 => s.rt r Δ5 σ5 v5 G5 H5 h o5
    · exact fun Δ5 σ5 G5 H5 h o5 => s.nx Δ5 σ5 G5 H5 h o5
    · exact fun Δ5 σ5 G5 H5 ⟨m', hm, h⟩ o5 => ⟨m', hm, Δ5, G5, h, o5⟩
  · rw [if_neg q]
    exact s.nx Δk σ2 G3 H3 (hc (by simpa using q)) (o2.ext e3)
end
end U

set_option Elab.async false
set_option linter.all false
set_option maxRecDepth 100000
set_option maxHeartbeats 4000000
namespace U
open PySem PySem.Spec L2
open En (enc)
/-! ## places within a tree -/
def OT.kids : OT → List OT
  | .p _ => []
  | .l ts => ts
  | .d _ ts => ts
  | .t _ ts => ts
  | .o _ _ ts => ts
def OT.put : OT → List OT → OT
  | .p m, _ => .p m
  | .l _, ts => .l ts
  | .d ks _, ts => .d ks ts
  | .t ks _, ts => .t ks ts
  | .o C ns _, ts => .o C ns ts
def OT.at : OT → List Nat → Option OT
  | x, [] => some x
  | x, k :: π => (x.kids[k]?).bind fun s => s.at π
def OT.set : OT → List Nat → OT → OT
  | _, [], s => s
  | x, k :: π, s => x.put (x.kids.modify k fun u => u.set π s)
/-- what a value holds -/
def holds? (H : Hp) : V → List V
  | .ref a => match H a with
    | some (.lst vs) => vs
    | some (.dK kvs) => kvs.map (·.2)
    | some (.dT kvs) => kvs.map (·.2)
    | some (.ins _ _ fs) => fs.map (·.2)
    | _ => []
  | _ => []
def Vat (H : Hp) : V → List Nat → Option V
  | v, [] => some v
  | v, k :: π => ((holds? H v)[k]?).bind fun w => Vat H w π
theorem ORs.focus {G H : Hp} : ∀ {vs : List V} {ts : List OT} {fp : List Addr} {k : Nat} {s : OT}, ORs G H vs ts fp → ts[k]? = some s →
    ∃ w f fo, vs[k]? = some w ∧ OR G H w s f ∧ fp.Perm (f ++ fo) ∧ ∀ H' s' f', (∀ b u, b ∈ fo → H b = some u → H' b = some u) → OR G H' w s' f' → ∃ fp', ORs G H' vs (ts.set k s') fp' ∧ fp'.Perm (f' ++ fo)
  | _, _, _, _, _, .nil, e => by simp at e
  | v :: vs, t :: ts, _, 0, s, @ORs.cons _ _ _ _ _ _ f fs a r, e => by
    simp at e; subst e
    refine ⟨v, f, fs, rfl, a, List.Perm.refl _, fun H' s' f' k o => ⟨f' ++ fs, .cons o (ORs.frame (fp0 := fs) k r fun _ h => h), List.Perm.refl _⟩⟩
  | v :: vs, t :: ts, _, k + 1, s, @ORs.cons _ _ _ _ _ _ f fs a r, e => by
    obtain ⟨w, g, fo, h1, h2, h3, h4⟩ := ORs.focus (k := k) (s := s) r (by simpa using e)
    refine ⟨w, g, f ++ fo, by simpa using h1, h2, ?_, fun H' s' f' q o => ?_⟩
    · refine (List.Perm.append_left f h3).trans ?_
      rw [← List.append_assoc, ← List.append_assoc]
      exact List.Perm.append_right fo List.perm_append_comm
    · obtain ⟨fp', r', pm⟩ := h4 H' s' f' (fun b u hb => q b u (List.mem_append_right _ hb)) o
      refine ⟨f ++ fp', .cons (OR.frame (fp0 := f) (fun b u hb => q b u (List.mem_append_left _ hb)) a fun _ h => h) r', ?_⟩
      refine (List.Perm.append_left f pm).trans ?_
      rw [← List.append_assoc, ← List.append_assoc]
      exact List.Perm.append_right fo List.perm_append_comm
theorem modify_set {α : Type} (l : List α) (k : Nat) (f : α → α) (x : α) (h : l[k]? = some x) : l.modify k f = l.set k (f x) := by
  apply List.ext_getElem?
  intro j
  rw [List.getElem?_modify]
  by_cases hj : k = j
  · subst hj
    rw [List.getElem?_set_self (List.getElem?_eq_some_iff.mp h).1, h]; simp
  · rw [List.getElem?_set_ne hj]
    cases l[j]? <;> simp [hj]
/-- a step down -/
theorem OR.step {G H : Hp} {v : V} {t s : OT} {fp : List Addr} {k : Nat} (o : OR G H v t fp) (h : t.kids[k]? = some s) :
    ∃ w f fo, (holds? H v)[k]? = some w ∧ OR G H w s f ∧ fp.Perm (f ++ fo) ∧ ∀ H' s' f', (∀ b u, b ∈ fo → H b = some u → H' b = some u) → OR G H' w s' f' → ∃ fp', OR G H' v (t.put (t.kids.set k s')) fp' ∧ fp'.Perm (f' ++ fo) := by
  have swap : ∀ (a : Addr) (f fo : List Addr), (a :: (f ++ fo)).Perm (f ++ (a :: fo)) := fun a f fo => List.perm_middle.symm
  cases o with
  | p _ => simp [OT.kids] at h
  | @l a vs ts fp e r =>
    obtain ⟨w, f, fo, h1, h2, h3, h4⟩ := r.focus h
    refine ⟨w, f, a :: fo, by simp [holds?, e, h1], h2, (h3.cons a).trans (swap a f fo), fun H' s' f' q o => ?_⟩
    obtain ⟨fp', r', pm⟩ := h4 H' s' f' (fun b u hb => q b u (List.mem_cons_of_mem _ hb)) o
    exact ⟨a :: fp', .l (q _ _ List.mem_cons_self e) r', (pm.cons a).trans (swap a f' fo)⟩
  | @d a kvs ks ts fp e ek r =>
    obtain ⟨w, f, fo, h1, h2, h3, h4⟩ := r.focus h
    refine ⟨w, f, a :: fo, by simpa [holds?, e] using h1, h2, (h3.cons a).trans (swap a f fo), fun H' s' f' q o => ?_⟩
    obtain ⟨fp', r', pm⟩ := h4 H' s' f' (fun b u hb => q b u (List.mem_cons_of_mem _ hb)) o
    exact ⟨a :: fp', .d (q _ _ List.mem_cons_self e) ek r', (pm.cons a).trans (swap a f' fo)⟩
  | @t a kvs ks ts fp e ek r =>
    obtain ⟨w, f, fo, h1, h2, h3, h4⟩ := r.focus h
    refine ⟨w, f, a :: fo, by simpa [holds?, e] using h1, h2, (h3.cons a).trans (swap a f fo), fun H' s' f' q o => ?_⟩
    obtain ⟨fp', r', pm⟩ := h4 H' s' f' (fun b u hb => q b u (List.mem_cons_of_mem _ hb)) o
    exact ⟨a :: fp', .t (q _ _ List.mem_cons_self e) ek r', (pm.cons a).trans (swap a f' fo)⟩
  | @o a C dx fs ns ts fp e ek r =>
    obtain ⟨w, f, fo, h1, h2, h3, h4⟩ := r.focus h
    refine ⟨w, f, a :: fo, by simpa [holds?, e] using h1, h2, (h3.cons a).trans (swap a f fo), fun H' s' f' q o => ?_⟩
    obtain ⟨fp', r', pm⟩ := h4 H' s' f' (fun b u hb => q b u (List.mem_cons_of_mem _ hb)) o
    exact ⟨a :: fp', .o (q _ _ List.mem_cons_self e) ek r', (pm.cons a).trans (swap a f' fo)⟩
theorem OR.focus {G H : Hp} : ∀ {π : List Nat} {v : V} {t s : OT} {fp : List Addr}, OR G H v t fp → t.at π = some s →
    ∃ w f fo, Vat H v π = some w ∧ OR G H w s f ∧ fp.Perm (f ++ fo) ∧ ∀ H' s' f', (∀ b u, b ∈ fo → H b = some u → H' b = some u) → OR G H' w s' f' → ∃ fp', OR G H' v (t.set π s') fp' ∧ fp'.Perm (f' ++ fo)
  | [], v, x0, s, fp, oo, e => by
    have e' : x0 = s := Option.some.inj e
    subst e'
    exact ⟨v, fp, [], rfl, oo, by simp, fun H' s' f' _ o' => ⟨f', o', by simp⟩⟩
  | k :: π, v, x0, s, fp, oo, e => by
    obtain ⟨u, hu, e'⟩ := Option.bind_eq_some_iff.mp (show (x0.kids[k]?).bind (fun s => s.at π) = some s from e)
    obtain ⟨w, f, fo, h1, h2, h3, h4⟩ := oo.step hu
    obtain ⟨x, g, go, g1, g2, g3, g4⟩ := OR.focus (π := π) h2 e'
    refine ⟨x, g, go ++ fo, ?_, g2, ?_, fun H' s' f' q o' => ?_⟩
    · show ((holds? H v)[k]?).bind (fun w => Vat H w π) = some x
      rw [h1]; exact g1
    · refine h3.trans ?_
      rw [← List.append_assoc]
      exact List.Perm.append_right fo g3
    · obtain ⟨fa, ra, pa⟩ := g4 H' s' f' (fun b u hb => q b u (List.mem_append_left _ hb)) o'
      obtain ⟨fb, rb, pb⟩ := h4 H' _ fa (fun b u hb => q b u (List.mem_append_right _ hb)) ra
      refine ⟨fb, ?_, pb.trans ?_⟩
      · show OR G H' v (x0.put (x0.kids.modify k fun u => u.set π s')) fb
        rw [modify_set _ _ _ _ hu]
        exact rb
      · rw [← List.append_assoc]
        exact List.Perm.append_right fo pa

section
variable {K : PySem.W.Frag} {te ta tb tl : TE} {tA : TA} {tt : TT} {t u : TS} {Δ Δ' : List Sl} {P : Pst} {i j : Nat} {r s : OT} {π : List Nat} {n : Ent} {σ : L2.St} {G0 H0 G H : Hp} {tr : OT}
theorem set_self {α : Type} {l : List α} {i : Nat} {x : α} (h : l[i]? = some x) : l.set i x = l := by
  obtain ⟨hi, e⟩ := List.getElem?_eq_some_iff.mp h
  apply List.ext_getElem?
  intro k
  by_cases hk : i = k
  · subst hk; rw [List.getElem?_set_self hi, h]
  · rw [List.getElem?_set_ne hk]
/-- the tree at place π of slot i is changed in the heap -/
theorem OkP.mut (o : OkP n Δ σ G0 H0) (e : Ext G0 H0 G H) (h : Δ[i]? = some (.own tr)) (hp : tr.at π = some s) :
    ∃ v w f, σ[i]? = some (some v) ∧ Vat H v π = some w ∧ OR G H w s f ∧ f.Nodup ∧ (∀ a ∈ f, G a = none ∧ ∃ u, H0 a = some u) ∧ ∀ H' s' f', (∀ b u, b ∉ f → H b = some u → H' b = some u) → OR G H' w s' f' → f'.Nodup →
      (∀ a ∈ f', a ∈ f ∨ (H0 a = none ∧ G a = none)) → OkP n (Δ.set i (.own (tr.set π s'))) σ G H' := by
  obtain ⟨fp, r0, nd, z⟩ := o.sl
  obtain ⟨v, f1, fp', ev, w1, r1, pm⟩ := r0.pick h
  have oe := o.ext e
  obtain ⟨w, f, fo, g1, g2, g3, g4⟩ := (w1.mono e.sG e.sH).focus hp
  have nd1 : (f1 ++ fp').Nodup := pm.nodup_iff.mpr nd
  obtain ⟨na, nb, nc⟩ := List.nodup_append.mp nd1
  have nd2 : (f ++ fo).Nodup := g3.nodup_iff.mp na
  obtain ⟨nf, nfo, nff⟩ := List.nodup_append.mp nd2
  have dom1 : ∀ a ∈ f1, G a = none ∧ n.B a = none ∧ ∃ u, H0 a = some u := fun a ha => by
    have za := z a (pm.mem_iff.mp (List.mem_append_left _ ha))
    obtain ⟨u, q⟩ := w1.dom a ha
    exact ⟨e.gn za.1 (by rw [q]; exact fun z => by cases z), za.2, u, q⟩
  have inf : ∀ a ∈ f, a ∈ f1 := fun a ha => g3.mem_iff.mpr (List.mem_append_left _ ha)
  have info : ∀ a ∈ fo, a ∈ f1 := fun a ha => g3.mem_iff.mpr (List.mem_append_right _ ha)
  refine ⟨v, w, f, ev, g1, g2, nf, fun a ha => ⟨(dom1 a (inf a ha)).1, (dom1 a (inf a ha)).2.2⟩, fun H' s' f' hk o' nf' hf' => ?_⟩
  obtain ⟨fa, ra, pa⟩ := g4 H' s' f' (fun b u hb => hk b u fun q => nff b q b hb rfl) o'
  have rB : SlO n G H' σ (Δ.set i .no) fp' := (r1.mono e.sG e.sH).frame (fp0 := fp') (fun b u hb => hk b u fun q => nc b (inf b q) b hb rfl) fun _ hb => hb
  have hl : i < Δ.length := (List.getElem?_eq_some_iff.mp h).1
  obtain ⟨fc, rc, pc⟩ := rB.fill (i := i) (set_none_get hl) ra
  rw [List.set_set, set_self ev] at rc
  refine ⟨fun b u q => hk b u (fun hb => ?_) (oe.sG b u q), fun b u q => hk b u (fun hb => ?_) (oe.sB b u q), oe.g0, oe.gf, fc, rc, ?_, fun a ha => ?_⟩
  · rw [(dom1 b (inf b hb)).1] at q; cases q
  · rw [(dom1 b (inf b hb)).2.1] at q; cases q
  · refine pc.nodup_iff.mpr (List.nodup_append.mpr ⟨pa.nodup_iff.mpr (List.nodup_append.mpr ⟨nf', nfo, fun a ha b hb q => ?_⟩), nb, fun a ha b hb q => ?_⟩)
    · subst q
      rcases hf' a ha with q | ⟨q, _⟩
      · exact nff a q a hb rfl
      · obtain ⟨u, q2⟩ := (dom1 a (info a hb)).2.2
        rw [q] at q2; cases q2
    · subst q
      rcases List.mem_append.mp (pa.mem_iff.mp ha) with q | q
      · rcases hf' a q with q | ⟨q, _⟩
        · exact nc a (inf a q) a hb rfl
        · obtain ⟨u, q2⟩ := r1.dom a hb
          rw [q] at q2; cases q2
      · exact nc a (info a q) a hb rfl
  · rcases List.mem_append.mp (pc.mem_iff.mp ha) with q | q
    · rcases List.mem_append.mp (pa.mem_iff.mp q) with q | q
      · rcases hf' a q with q | ⟨q, q'⟩
        · exact ⟨(dom1 a (inf a q)).1, (dom1 a (inf a q)).2.1⟩
        · refine ⟨q', ?_⟩
          cases w : n.B a with
          | none => rfl
          | some u => have := o.sB a u w; rw [q] at this; cases this
      · exact ⟨(dom1 a (info a q)).1, (dom1 a (info a q)).2.1⟩
    · have za := z a (pm.mem_iff.mp (List.mem_append_right _ q))
      obtain ⟨u, q2⟩ := r1.dom a q
      exact ⟨e.gn za.1 (by rw [q2]; exact fun z => by cases z), za.2⟩

/-- an expression that comes to the value at place π of slot i -/
def DV (te : TE) (Δ : List Sl) (i : Nat) (π : List Nat) : Prop := ∀ (n : Ent) (σ : L2.St) (G H : Hp) (Q : VK), OkP n Δ σ G H → (∀ v w, σ[i]? = some (some v) → Vat H v π = some w → Q w H) → te σ H Q
theorem dv_var (h : Δ[i]? = some (.own tr)) : DV (tVar i) Δ i [] := fun n σ G H Q o q => by
  obtain ⟨fp, r, _⟩ := o.sl
  obtain ⟨v, f, e, w, _⟩ := r.getO h
  exact ⟨v, e, q v v e rfl⟩
theorem Vat_app {H : Hp} : ∀ {π : List Nat} {v w : V} {k : Nat} {x : V}, Vat H v π = some w → (holds? H w)[k]? = some x → Vat H v (π ++ [k]) = some x
  | [], v, w, k, x, e, h => by
    have e' : v = w := Option.some.inj e
    subst e'
    show ((holds? H v)[k]?).bind (fun w => Vat H w []) = some x
    rw [h]; rfl
  | j :: π, v, w, k, x, e, h => by
    obtain ⟨u, hu, e'⟩ := Option.bind_eq_some_iff.mp (show ((holds? H v)[j]?).bind (fun w => Vat H w π) = some w from e)
    show ((holds? H v)[j]?).bind (fun w => Vat H w (π ++ [k])) = some x
    rw [hu]; exact Vat_app (π := π) e' h
theorem holds_ext {H H' : Hp} (s : Same H H') {v w : V} {k : Nat} (h : (holds? H v)[k]? = some w) : (holds? H' v)[k]? = some w := by
  cases v with
  | ref a =>
    cases e : H a with
    | none => simp [holds?, e] at h
    | some o =>
      have e' := s a o e
      have : holds? H' (.ref a) = holds? H (.ref a) := by simp only [holds?, e, e']
      rw [this]; exact h
  | _ => simp [holds?] at h
theorem Vat_ext {H H' : Hp} (s : Same H H') : ∀ {π : List Nat} {v w : V}, Vat H v π = some w → Vat H' v π = some w
  | [], v, w, e => e
  | k :: π, v, w, e => by
    obtain ⟨u, hu, e'⟩ := Option.bind_eq_some_iff.mp (show ((holds? H v)[k]?).bind (fun w => Vat H w π) = some w from e)
    show ((holds? H' v)[k]?).bind (fun w => Vat H' w π) = some w
    rw [holds_ext s hu]; exact Vat_ext s (π := π) e'
/-- an attribute of an object -/
theorem lookup_ix {fs : List (Str × V)} {f : Str} : ∀ {ns : List Str} {k : Nat}, fs.map (·.1) = ns → ns[k]? = some f → (∀ j, j < k → ns[j]? ≠ some f) → ∃ v, fs.lookup f = some v ∧ (fs.map (·.2))[k]? = some v := by
  induction fs with
  | nil => intro ns k e h _; subst e; simp at h
  | cons p fs ih =>
    obtain ⟨a, b⟩ := p
    intro ns k e h hj
    subst e
    cases k with
    | zero =>
      simp at h; subst h
      exact ⟨b, by simp [List.lookup], rfl⟩
    | succ k =>
      have hne : ¬ f = a := fun q => hj 0 (by omega) (by simp [q])
      obtain ⟨v, e1, e2⟩ := ih (ns := fs.map (·.1)) (k := k) rfl (by simpa using h) fun j hjk q => hj (j + 1) (by omega) (by simpa using q)
      refine ⟨v, ?_, by simpa using e2⟩
      have : (f == a) = false := by simpa using hne
      simp [List.lookup, this, e1]
theorem OT_at_app : ∀ {π : List Nat} {t s : OT} {k : Nat}, t.at π = some s → t.at (π ++ [k]) = s.kids[k]?
  | [], t, s, k, e => by
    have e' : t = s := Option.some.inj e
    subst e'
    show (t.kids[k]?).bind (fun s => s.at []) = _
    cases t.kids[k]? <;> rfl
  | j :: π, t, s, k, e => by
    obtain ⟨u, hu, e'⟩ := Option.bind_eq_some_iff.mp (show (t.kids[j]?).bind (fun s => s.at π) = some s from e)
    show (t.kids[j]?).bind (fun s => s.at (π ++ [k])) = _
    rw [hu]; exact OT_at_app (π := π) e'
theorem dv_fld {C : Addr} {ns : List Str} {ts : List OT} {f : Str} {k : Nat} (h : DV te Δ i π) (hΔ : Δ[i]? = some (.own tr)) (ht : tr.at π = some (.o C ns ts)) (hc : Cls K C) (na : NoAttr K C f) (hk : ns[k]? = some f) (hj : ∀ j, j < k → ns[j]? ≠ some f) : DV (tFld K te f) Δ i (π ++ [k]) := fun n σ G H Q o q => h n σ G H _ o fun v w ev ew => by
  obtain ⟨v', w', f', ev', ew', ro, _⟩ := o.mut (Ext.refl o.sG) hΔ ht
  rw [ev] at ev'; cases ev'
  rw [ew] at ew'; cases ew'
  cases ro with
  | o e en r =>
    obtain ⟨x, l1, l2⟩ := lookup_ix en hk hj
    exact ⟨_, C, _, _, x, rfl, e, hc, na, l1, q v x ev (Vat_app ew (by simpa [holds?, e] using l2))⟩
end
end U

set_option Elab.async false
set_option linter.all false
set_option maxRecDepth 100000
set_option maxHeartbeats 4000000
namespace U
open PySem PySem.Spec L2
open En (enc)
section
variable {K : PySem.W.Frag} {te ta tb tl : TE} {tA : TA} {tt : TT} {t u : TS} {Δ Δ' : List Sl} {P : Pst} {i j : Nat} {r s : OT} {π : List Nat} {n : Ent} {σ : L2.St} {G0 H0 G H G' H' : Hp} {tr : OT} {α β : Type} [En α] [En β]
/-! ## frozen trees -/
def frz (t : OT) : Mo := ⟨fun G v => ∃ fp, OR G G v t fp, fun G G' v s ⟨fp, r⟩ => ⟨fp, r.mono s s⟩⟩
theorem freezeT {v : V} {t : OT} {fp : List Addr} (x : Same G' H') (r : OR G' H' v t fp) (z : ∀ a ∈ fp, G' a = none) : ∃ G'', Same G' G'' ∧ Same G'' H' ∧ OR G'' G'' v t fp ∧ (∀ a o, G'' a = some o → G' a = some o ∨ a ∈ fp) := by
  classical
  refine ⟨fun a => if a ∈ fp then H' a else G' a, fun b u e => ?_, fun b u e => ?_, ?_, fun b u e => ?_⟩
  · have : b ∉ fp := fun hb => by rw [z b hb] at e; cases e
    simp [this, e]
  · by_cases hb : b ∈ fp
    · simpa [hb] using e
    · simp only [if_neg hb] at e
      exact x b u e
  · have s1 : Same G' (fun a => if a ∈ fp then H' a else G' a) := fun b u e => by
      have : b ∉ fp := fun hb => by rw [z b hb] at e; cases e
      simp [this, e]
    exact (OR.frame (fp0 := fp) (H' := fun a => if a ∈ fp then H' a else G' a) (fun b u hb e => by simp [hb, e]) r fun _ h => h).mono s1 (Same.refl _)
  · by_cases hb : b ∈ fp
    · exact .inr hb
    · simp only [if_neg hb] at e
      exact .inl e
theorem de_frz (h : DE te Δ (.own r)) : DE te Δ (.own (.p (frz r))) := fun n σ G H Q o q => h n σ G H Q o fun v G1 H1 e ⟨fp, w, nd, z⟩ => by
  obtain ⟨G2, a, b, c, d⟩ := freezeT e.gh w fun a ha => (z a ha).2
  exact q v G2 H1 ⟨e.sH, e.sG.trans a, b, fun x u hx => (d x u hx).elim (e.fr x u) fun m => .inr (z x m).1⟩ (OwnR.leaf ⟨fp, c⟩)
theorem VR_frz {v : V} (h : VR G H v (.p (frz r))) (s : Same G H) : VR G H v r := by
  cases h with
  | p h =>
    obtain ⟨fp, w⟩ := h
    exact (w.mono (Same.refl _) s).see
theorem de_unfrz (h : DE te Δ (.vw (.p (frz r)))) : DE te Δ (.vw r) := fun n σ G H Q o q => h n σ G H Q o fun v G1 H1 e w => q v G1 H1 e (VR_frz w e.gh)
theorem de_unfrzS (h : DE te Δ (.vw (.p (frz r)))) : DE te Δ (.st r) := fun n σ G H Q o q => h n σ G H Q o fun v G1 H1 e w => q v G1 H1 e fun G2 H2 a b _ => by
  cases w with
  | p w =>
    obtain ⟨fp, w⟩ := w
    exact (w.mono a (a.trans b)).see
/-- an owned slot is frozen: as data, as a tree -/
theorem OkP.frz (o : OkP n Δ σ G H) (h : Δ[i]? = some (.own r)) {m : Mo} (hm : ∀ G v fp, OR G G v r fp → m.φ G v) : ∃ G', OkP n (Δ.set i (.own (.p m))) σ G' H := by
  obtain ⟨fp, r0, nd, z⟩ := o.sl
  obtain ⟨v, f, fp', ev, w, r1, pm⟩ := r0.pick h
  have nd1 := pm.nodup_iff.mpr nd
  obtain ⟨na, nb, nc⟩ := List.nodup_append.mp nd1
  obtain ⟨G2, a, b, c, d⟩ := freezeT o.sG w fun a ha => (z a (pm.mem_iff.mp (List.mem_append_left _ ha))).1
  have hl : i < Δ.length := (List.getElem?_eq_some_iff.mp h).1
  obtain ⟨fc, rc, pc⟩ := (r1.mono a (Same.refl _)).fill (i := i) (set_none_get hl) (.p (hm _ _ _ c))
  rw [List.set_set, set_self ev] at rc
  refine ⟨G2, b, o.sB, o.g0.trans a, fun x u hx => ?_, fc, rc, pc.nodup_iff.mpr (by simpa using nb), fun x hx => ?_⟩
  · rcases d x u hx with q | q
    · exact o.gf x u q
    · exact .inr (z x (pm.mem_iff.mp (List.mem_append_left _ q))).2
  · have hx' : x ∈ fp' := by simpa using pc.mem_iff.mp hx
    have zx := z x (pm.mem_iff.mp (List.mem_append_right _ hx'))
    refine ⟨?_, zx.2⟩
    cases q : G2 x with
    | none => rfl
    | some u =>
      rcases d x u q with q | q
      · rw [zx.1] at q; cases q
      · exact absurd rfl (nc x q x hx')
theorem ds_frzL {xs : List α} (i : Nat) (h : Δ[i]? = some (.own (JL xs))) (k : DS t (Δ.set i (.own (J xs))) P) : DS t Δ P := fun n σ G H D o s => by
  obtain ⟨G', o'⟩ := o.frz h (m := dat (enc xs)) fun G v fp w => by
    cases w with
    | l a b => exact .lst a (ORs_J b).2
  exact k n σ G' H D o' s
theorem ds_frzT (i : Nat) (h : Δ[i]? = some (.own r)) (k : DS t (Δ.set i (.own (.p (U.frz r)))) P) : DS t Δ P := fun n σ G H D o s => by
  obtain ⟨G', o'⟩ := o.frz h (m := U.frz r) fun G v fp w => ⟨fp, w⟩
  exact k n σ G' H D o' s

/-! ## a def that changes nothing that stood -/
/-- args: how the arguments are seen; pre: what is asked of them; res: what comes out -/
def spP {A : Type} (args : A → List OT) (pre : A → Prop) (res : A → OT) : Sp := fun vs H Q _ => ∃ G a, Same G H ∧ VRs G H vs (args a) ∧ pre a ∧ ∀ v G' H', Ext G H G' H' → OwnR G' H' H v (res a) → Q v H'
theorem de_call {A : Type} {args : A → List OT} {pre : A → Prop} {res : A → OT} {E : XK} {a : A} (h : DA tA Δ (args a)) (hp : pre a) : DE (tCall (spP args pre res) [] E tA) Δ (.own (res a)) := fun n σ G H Q o q =>
  h n σ G H _ o fun vs G1 H1 e1 r => ⟨G1, a, e1.gh, by rw [List.append_nil]; exact r, hp, fun v G2 H2 e2 w => q v G2 H2 (e1.trans e2) (OwnR.back w e1.sH)⟩
/-- an object of the class at C without an attribute m -/
def IsO (C : Addr) (m : Str) (t : OT) : Prop := ∀ G H v, Same G H → VR G H v t → ∃ a dx fs, v = .ref a ∧ H a = some (.ins C dx fs) ∧ fs.lookup m = none
theorem lookup_no {fs : List (Str × V)} {m : Str} : ∀ {ns : List Str}, fs.map (·.1) = ns → m ∉ ns → fs.lookup m = none := by
  induction fs with
  | nil => intro _ _ _; rfl
  | cons p fs ih =>
    obtain ⟨a, b⟩ := p
    intro ns e h
    subst e
    simp only [List.map_cons, List.mem_cons, not_or] at h
    have : (m == a) = false := by simpa using h.1
    simp [List.lookup, this, ih rfl h.2]
theorem isO_o {C : Addr} {m : Str} {ns : List Str} {ts : List OT} (h : m ∉ ns) : IsO C m (.o C ns ts) := fun G H v s r => by
  cases r with
  | o e en _ => exact ⟨_, _, _, rfl, e, lookup_no en h⟩
theorem isO_frz {C : Addr} {m : Str} {t : OT} (h : IsO C m t) : IsO C m (.p (frz t)) := fun G H v s r => h G H v s (VR_frz r s)
theorem de_meth {A : Type} {args : A → List OT} {pre : A → Prop} {res : A → OT} {E : XK} {a : A} {C : Addr} {m : Str} {o : OT} {ts : List OT} (ho : DE ta Δ (.vw o)) (hc : IsO C m o) (h : DA tA Δ ts) (ha : args a = o :: ts) (hp : pre a) :
    DE (tMeth C m (spP args pre res) [] E ta tA) Δ (.own (res a)) := fun n σ G H Q k q => ho n σ G H _ k fun x G1 H1 e1 rx => by
  obtain ⟨p, dx, fs, rfl, ep, lm⟩ := hc G1 H1 x e1.gh rx
  refine ⟨p, dx, fs, rfl, ep, lm, h n σ G1 H1 _ (k.ext e1) fun vs G2 H2 e2 r => ⟨G2, a, e2.gh, ?_, hp, fun v G3 H3 e3 w => q v G3 H3 ((e1.trans e2).trans e3) (OwnR.back w (e1.trans e2).sH)⟩⟩
  rw [ha, List.append_nil]
  exact .cons (rx.mono e2.sG e2.sH) r
/-- an attribute read -/
theorem de_fld {C : Addr} {ns : List Str} {ts : List OT} {f : Str} {k : Nat} {s : OT} (h : DE te Δ (.vw (.o C ns ts))) (hc : Cls K C) (na : NoAttr K C f) (hk : ns[k]? = some f) (hj : ∀ j, j < k → ns[j]? ≠ some f) (hs : ts[k]? = some s) : DE (tFld K te f) Δ (.vw s) := fun n σ G H Q o q =>
  h n σ G H _ o fun x G1 H1 e1 r => by
    cases r with
    | o e en r =>
      obtain ⟨w, l1, l2⟩ := lookup_ix en hk hj
      obtain ⟨w', h1, h2⟩ := r.at hs
      rw [l2] at h1
      cases h1
      exact ⟨_, C, _, _, w, rfl, e, hc, na, l1, q w G1 H1 e1 h2⟩
/-- the arguments are seen and stay: what is at the entry of such a def -/
def argS (ts : List OT) (N : List Str) : List Sl := ts.map .vw ++ List.replicate (N.length - ts.length) .no
theorem argS_ok {G H : Hp} (s : Same G H) : ∀ {vs : List V} {ts : List OT} (m : Nat), VRs G H vs ts → SlO ⟨G, H⟩ G H (vs.map some ++ List.replicate m none) (ts.map .vw ++ List.replicate m .no) []
  | _, _, 0, .nil => .nil
  | _, _, m + 1, .nil => by
    have := argS_ok s (vs := []) (ts := []) m .nil
    exact .no (by simpa using this)
  | _, _, m, .cons a r => .vw (fun G2 H2 x y z => a.mono x z) (argS_ok s m r)
theorem pure_run {A : Type} {args : A → List OT} {pre : A → Prop} {res : A → OT} {t : TS} {N : List Str} (hd : ∀ a, pre a → DS t (argS (args a) N) { rt := fun r _ => r = res a, nx := fun _ => res a = J () })
    {vs : List V} {H : Hp} {Q : VK} {E : XK} (h : spP args pre res vs H Q E) : t { nx := fun _ H' => Q .non H', rt := Q } (start N vs) H := by
  obtain ⟨G, a, sG, r, hp, q⟩ := h
  have o : OkP ⟨G, H⟩ (argS (args a) N) (start N vs) G H := by
    refine ⟨sG, Same.refl _, Same.refl _, fun a u h => .inl h, [], ?_, List.nodup_nil, fun a ha => by simp at ha⟩
    unfold argS L2.start
    rw [r.len]
    exact argS_ok sG _ r
  refine hd a hp ⟨G, H⟩ _ G H _ o ⟨?_, ?_, fun _ _ _ _ h => h.elim, fun _ _ _ _ h => h.elim⟩
  · intro Δ' σ' G' H' hn o'
    refine q .non G' H' ⟨o'.sB, o'.g0, o'.sG, o'.gf⟩ ?_
    rw [hn]
    exact OwnR.leaf .non
  · intro r' Δ' σ' v G' H' hr o'
    subst hr
    obtain ⟨fp, sl, nd, z⟩ := o'.sl
    cases sl with
    | own w rest =>
      obtain ⟨n1, n2, n3⟩ := List.nodup_append.mp nd
      refine q v G' H' ⟨o'.sB, o'.g0, o'.sG, o'.gf⟩ ⟨_, w, n1, fun a ha => ?_⟩
      have := z a (List.mem_append_left _ ha)
      exact ⟨this.2, this.1⟩
end
section
variable {Pg : Program} {w : World} {K : PySem.W.Frag} {mg : Str → Option Value} {base : Heap}
/-- THE RULE for such a def -/
theorem Fun.pure {A : Type} {args : A → List OT} {pre : A → Prop} {res : A → OT} {x qual : Str} {st : Stmt} {f : Addr} {fd : FuncData} {N ps : List Str} {k : Nat} (F : Fun K x qual st f fd) (S : FnScope N ps (defScope st)) (hl : ∀ a, (args a).length = ps.length)
    (hb : ∀ (cdv : Value) (A : Around) (outer : List Env) (s : Shared) (H : Hp) (E : XK), Room k (A.deeper (PyProof.Rows.envOfC qual (defScope st) s.heap.objs.size f cdv)) →
      ∃ t, PSs (cxOf CX0 Pg w K mg base N qual (defScope st) f cdv A outer s H E).nox (defBody st) t ∧ ∀ a, pre a → DS t (argS (args a) N) { rt := fun r _ => r = res a, nx := fun _ => res a = J () }) :
    FnOk Pg w K mg base CX0 (k + 1) f fd ps (spP args pre res) :=
  F.ok S (fun vs H Q E ⟨G, a, _, r, _⟩ => by rw [r.len]; exact hl a) fun cdv A outer s H vs Q E hr h => by
    obtain ⟨t, h1, h2⟩ := hb cdv A outer s H E hr
    exact ⟨t, h1, pure_run h2 h⟩
end
end U

set_option Elab.async false
set_option linter.all false
set_option maxRecDepth 100000
set_option maxHeartbeats 4000000
namespace U
open PySem PySem.Spec L2
open En (enc)
section
variable {X : Cx} {tg : Expr}
/-- a list or a tuple, walked -/
def iSeq (K : PySem.W.Frag) (tl : TE) : TI := fun σ H R => iList K tl σ H R ∨ iTup K tl σ H R
theorem pi_seq {l : Expr} {tl : TE} (hl : PE X l tl) : PI X tg l (iSeq X.K tl) := ⟨fun pins s σ H R I h => by
  rcases h with h | h
  · exact (pi_list hl).run pins s σ H R I h
  · exact (pi_tup hl).run pins s σ H R I h⟩
/-- o[i] = v, a list's or a dict's -/
def rSetD : V → V → V → Hp → (Hp → Prop) → Prop := fun o y v H Q => ∃ a H4, o = .ref a ∧ DPut H a y v H4 ∧ Q H4
def rSetA : V → V → V → Hp → (Hp → Prop) → Prop := fun o y v H Q => rSetL o y v H Q ∨ rSetD o y v H Q
theorem set_any (hu : X.A.units + 1 < cLine) : PSet X rSetA := by
  intro pins s σ H o i v ov iv u Q I ro ri rv h
  rcases h with h | h
  · exact set_list pins s σ H o i v ov iv u Q I ro ri rv h
  · obtain ⟨a, H4, rfl, g, q⟩ := h
    cases ro
    exact d_setItem hu I g ri rv fun s4 I4 => ⟨H4, I4, q⟩
end
section
variable {K : PySem.W.Frag} {te ta tb tl : TE} {tA : TA} {tt : TT} {t u : TS} {Δ Δ' : List Sl} {P : Pst} {i j : Nat} {r s : OT} {π : List Nat} {n : Ent} {σ : L2.St} {G0 H0 G H G' H' : Hp} {tr : OT} {α β : Type} [En α] [En β] {δ : Type} {c : δ → Mo} {xs : List δ} {st : Bool}
theorem di_L (h : DI st (iList K tl) Δ c xs) : DI st (iSeq K tl) Δ c xs := fun n σ G H R o q => .inl (h n σ G H R o q)
theorem di_T (h : DI st (iTup K tl) Δ c xs) : DI st (iSeq K tl) Δ c xs := fun n σ G H R o q => .inr (h n σ G H R o q)
/-- over a frozen list of data -/
theorem di_dat {xs : List α} (h : DE tl Δ (.own (J xs))) : DI true (iList K (tSz K tl)) Δ (fun x : α => dat (enc x)) xs := di_listS (de_open_st h)
/-! ## what is changed -/
/-- place.append(e) -/
theorem ds_append {ts : List OT} (hv : DV ta Δ i π) (hΔ : Δ[i]? = some (.own tr)) (ht : tr.at π = some (.l ts)) (he : DE te Δ (.own r)) (hz : ts.length < sizeLine) (hn : P.nx (Δ.set i (.own (tr.set π (.l (ts ++ [r])))))) :
    DS (tDrop (tBM K "list" rAppend ta (tCons te tNil))) Δ P := fun n σ G H D o s => hv n σ G H _ o fun v w ev ew => by
  obtain ⟨v', w', f', ev', ew', ro, _⟩ := o.mut (Ext.refl o.sG) hΔ ht
  rw [ev] at ev'; cases ev'
  rw [ew] at ew'; cases ew'
  cases ro with
  | @l a vs ts0 fp0 h0 _ =>
    refine ⟨.inl ⟨rfl, _, .inl (.inl h0)⟩, he n σ G H _ o fun y G1 H1 e1 ⟨fr, wr, nr, zr⟩ => ?_⟩
    obtain ⟨v2, w2, f2, ev2, ew2, ro2, nf, zf, k⟩ := o.mut e1 hΔ ht
    rw [ev] at ev2; cases ev2
    have ew3 : Vat H1 v π = some (.ref a) := Vat_ext e1.sH ew
    rw [ew3] at ew2; cases ew2
    cases ro2 with
    | @l _ vs2 _ fp2 h2 rs2 =>
      obtain ⟨na, nfp⟩ := List.nodup_cons.mp nf
      have nar : a ∉ fr := fun hr => by
        have := (zr a hr).1
        obtain ⟨u, q⟩ := (zf a List.mem_cons_self).2
        rw [q] at this; cases this
      refine ⟨a, vs2, y, rfl, rfl, h2, by rw [rs2.len]; exact hz, s.nx _ σ G1 _ hn (k _ (.l (ts ++ [r])) (a :: (fp2 ++ (fr ++ []))) ?_ ?_ ?_ ?_)⟩
      · exact fun b u hb q => by rw [upd_ne (fun z => hb (by rw [z]; exact List.mem_cons_self))]; exact q
      · exact .l upd_same (ORs_app (rs2.aft na) (.cons (wr.aft nar) .nil))
      · refine List.nodup_cons.mpr ⟨fun q => ?_, ?_⟩
        · rw [List.append_nil] at q
          exact (List.mem_append.mp q).elim na nar
        · rw [List.append_nil]
          refine List.nodup_append.mpr ⟨nfp, nr, fun x hx y hy q => ?_⟩
          subst q
          have := (zr x hy).1
          obtain ⟨u, q⟩ := (zf x (List.mem_cons_of_mem _ hx)).2
          rw [q] at this; cases this
      · intro x hx
        rw [List.append_nil] at hx
        rcases List.mem_cons.mp hx with rfl | hx
        · exact .inl List.mem_cons_self
        · rcases List.mem_append.mp hx with hx | hx
          · exact .inl (List.mem_cons_of_mem _ hx)
          · exact .inr (zr x hx)
/-- name op= e, whole numbers -/
theorem ds_aug {g : Int → Int → V} {a b z : Int} (h : Δ[i]? = some (.own (J a))) (he : DE te Δ (.vw (J b))) (hg : g a b = .int z) (hn : P.nx (Δ.set i (.own (J z)))) : DS (tAug i te (rI0 g)) Δ P := fun n σ G H D o s => by
  obtain ⟨fp, r0, _⟩ := o.sl
  obtain ⟨v, f, ev, w, _⟩ := r0.getO h
  refine ⟨v, ev, he n σ G H _ o fun y G1 H1 e1 ry => ⟨a, b, VR_int w.see, VR_int ry, ?_⟩⟩
  rw [hg]
  exact s.nx _ _ G1 H1 hn (o.put (List.getElem?_eq_some_iff.mp h).1 e1 OwnR_int)
end
end U

set_option Elab.async false
set_option linter.all false
set_option maxRecDepth 100000
set_option maxHeartbeats 4000000
namespace U
open PySem PySem.Spec L2
open En (enc)
/-! ## dicts -/
/-- what may be a key by itself -/
class DKey (α : Type) [En α] where
  k : α → Key
  inj : ∀ x y, k x = k y ↔ x = y
  rd : ∀ G v x, Dq G v (enc x) → v = kV (k x)
instance : DKey Nm := ⟨fun x => .inr x.1, fun x y => ⟨fun h => Subtype.ext (Sum.inr.inj h), fun h => by rw [h]⟩, fun G v x h => by
  have h' : Dq G v (.str x.1) := h
  cases h'; rfl⟩
instance : DKey Int := ⟨fun x => .inl x, fun x y => ⟨fun h => Sum.inl.inj h, fun h => by rw [h]⟩, fun G v x h => by
  have h' : Dq G v (.int x) := h
  cases h'; rfl⟩
instance : DKey Nat := ⟨fun x => .inl x, fun x y => ⟨fun h => Int.ofNat.inj (Sum.inl.inj h), fun h => by rw [h]⟩, fun G v x h => by
  have h' : Dq G v (.int x) := h
  cases h'; rfl⟩
/-- look up, put in, take out -/
def lk {κ β : Type} [DecidableEq κ] (ps : List (κ × β)) (x : κ) : Option β := (ps.find? fun p => decide (p.1 = x)).map (·.2)
def ptd {κ β : Type} [DecidableEq κ] (ps : List (κ × β)) (x : κ) (b : β) : List (κ × β) := if (ps.any fun p => decide (p.1 = x)) = true then ps.map (fun p => if p.1 = x then (p.1, b) else p) else ps ++ [(x, b)]
section
variable {κ β : Type} [En κ] [DKey κ] [DecidableEq κ]
/-- a dict from κ, its values as trees -/
def Dk (f : β → OT) (ps : List (κ × β)) : OT := .d (ps.map fun p => DKey.k p.1) (ps.map fun p => f p.2)
def DtK (x : List Nm) : List Key := x.map fun n => .inr n.1
theorem DtK_inj {x y : List Nm} : DtK x = DtK y ↔ x = y := by
  constructor
  · intro h
    induction x generalizing y with
    | nil => cases y with
      | nil => rfl
      | cons b y => simp [DtK] at h
    | cons a x ih => cases y with
      | nil => simp [DtK] at h
      | cons b y =>
        simp only [DtK, List.map_cons, List.cons.injEq] at h
        rw [Subtype.ext (Sum.inr.inj h.1), ih (y := y) (by simpa [DtK] using h.2)]
  · intro h; rw [h]
/-- a dict from tuples of names -/
def Dt (f : β → OT) (ps : List (Tu Nm × β)) : OT := .t (ps.map fun p => DtK p.1.l) (ps.map fun p => f p.2)
/-- pairs beside pairs -/
theorem lk_rel {κ β ι : Type} [DecidableEq κ] [DecidableEq ι] {G H : Hp} {f : β → OT} {e : κ → ι} (inj : ∀ x y, e x = e y ↔ x = y) {x : κ} : ∀ {kvs : List (ι × V)} {ps : List (κ × β)}, kvs.map (·.1) = ps.map (fun p => e p.1) → VRs G H (kvs.map (·.2)) (ps.map fun p => f p.2) →
    (valV kvs (e x) = none ∧ lk ps x = none) ∨ ∃ v b, valV kvs (e x) = some v ∧ lk ps x = some b ∧ VR G H v (f b)
  | [], [], _, _ => .inl ⟨rfl, rfl⟩
  | [], p :: ps, h, _ => by simp at h
  | kv :: kvs, [], h, _ => by simp at h
  | kv :: kvs, p :: ps, h, r => by
    simp only [List.map_cons, List.cons.injEq] at h
    cases r with
    | cons a b =>
      by_cases q : p.1 = x
      · have q' : kv.1 = e x := by rw [h.1, q]
        refine .inr ⟨kv.2, p.2, valV_pos q', by simp [lk, q], a⟩
      · have q' : ¬ kv.1 = e x := by rw [h.1]; exact fun z => q ((inj _ _).mp z)
        rw [valV_neg q']
        have : lk (p :: ps) x = lk ps x := by simp [lk, q]
        rw [this]
        exact lk_rel inj h.2 b
end
section
variable {K : PySem.W.Frag} {te ta tb tl : TE} {tA : TA} {Δ Δ' : List Sl} {P : Pst} {i : Nat} {r s : OT} {π : List Nat} {tr : OT} {κ β : Type} [En κ] [DKey κ] [DecidableEq κ] {f : β → OT} {ps : List (κ × β)} {x : κ} {qs : List (Tu Nm × β)} {y : Tu Nm} {b : β}
/-- the reading of a look-up, both kinds of dict -/
theorem dget_k {G H : Hp} {v w : V} (sG : Same G H) (r1 : VR G H v (Dk f ps)) (r2 : VR G H w (J x)) : ∃ a o, v = .ref a ∧ DGet H a w o ∧ ((o = none ∧ lk ps x = none) ∨ ∃ u b, o = some u ∧ lk ps x = some b ∧ VR G H u (f b)) := by
  cases r1 with
  | @d a kvs ks ts h e r =>
    have ew := DKey.rd H w x (VR_J sG r2)
    refine ⟨a, valV kvs (DKey.k x), rfl, .inl ⟨kvs, DKey.k x, h, ew, rfl⟩, ?_⟩
    exact lk_rel (e := DKey.k) DKey.inj e r
theorem tup_key {G : Hp} : ∀ {xs : List Nm} {vs : List V}, Dqs G vs (xs.map enc) → vs = (DtK xs).map kV
  | [], _, h => by cases h; rfl
  | x :: xs, _, h => by
    cases h with
    | cons a b =>
      have a' : Dq G _ (.str x.1) := a
      cases a'
      rw [tup_key b]; rfl
theorem dget_t {G H : Hp} {v w : V} (sG : Same G H) (r1 : VR G H v (Dt f qs)) (r2 : VR G H w (J y)) : ∃ a o, v = .ref a ∧ DGet H a w o ∧ ((o = none ∧ lk qs y = none) ∨ ∃ u b, o = some u ∧ lk qs y = some b ∧ VR G H u (f b)) := by
  cases r1 with
  | @t a kvs ks ts h e r =>
    have h2 : Dq H w (.tuple (y.l.map enc)) := VR_J sG r2
    cases h2 with
    | tup hb rb =>
      refine ⟨a, valV kvs (DtK y.l), rfl, .inr ⟨kvs, DtK y.l, _, h, rfl, by rw [hb, tup_key rb], rfl⟩, ?_⟩
      have inj : ∀ x y : Tu Nm, DtK x.l = DtK y.l ↔ x = y := fun x y => ⟨fun h => by cases x; cases y; simp only [Tu.mk.injEq]; exact DtK_inj.mp h, fun h => by rw [h]⟩
      exact lk_rel (e := fun z : Tu Nm => DtK z.l) inj e r
theorem de_inD (ha : DE ta Δ (.vw (J x))) (hb : DE tb Δ (.vw (Dk f ps))) : DE (tOp (rInA K) ta tb) Δ (.own (J (lk ps x).isSome)) :=
  de_op ha hb fun u v G H Q s r1 r2 q => by
    obtain ⟨a, o, rfl, g, h⟩ := dget_k s r2 r1
    refine .inr (.inr (.inl ⟨a, o, rfl, g, ?_⟩))
    have : o.isSome = (lk ps x).isSome := by rcases h with ⟨h1, h2⟩ | ⟨_, _, h1, h2, _⟩ <;> rw [h1, h2] <;> rfl
    rw [this]; exact q _ G H (Ext.refl s) OwnR_bl
theorem de_ninD (ha : DE ta Δ (.vw (J x))) (hb : DE tb Δ (.vw (Dk f ps))) : DE (tOp (rNinA K) ta tb) Δ (.own (J (!(lk ps x).isSome))) :=
  de_op ha hb fun u v G H Q s r1 r2 q => by
    obtain ⟨a, o, rfl, g, h⟩ := dget_k s r2 r1
    refine .inr (.inr ⟨a, o, rfl, g, ?_⟩)
    have : o.isSome = (lk ps x).isSome := by rcases h with ⟨h1, h2⟩ | ⟨_, _, h1, h2, _⟩ <;> rw [h1, h2] <;> rfl
    rw [this]; exact q _ G H (Ext.refl s) OwnR_bl
theorem de_inDt (ha : DE ta Δ (.vw (J y))) (hb : DE tb Δ (.vw (Dt f qs))) : DE (tOp (rInA K) ta tb) Δ (.own (J (lk qs y).isSome)) :=
  de_op ha hb fun u v G H Q s r1 r2 q => by
    obtain ⟨a, o, rfl, g, h⟩ := dget_t s r2 r1
    refine .inr (.inr (.inl ⟨a, o, rfl, g, ?_⟩))
    have : o.isSome = (lk qs y).isSome := by rcases h with ⟨h1, h2⟩ | ⟨_, _, h1, h2, _⟩ <;> rw [h1, h2] <;> rfl
    rw [this]; exact q _ G H (Ext.refl s) OwnR_bl
theorem de_ninDt (ha : DE ta Δ (.vw (J y))) (hb : DE tb Δ (.vw (Dt f qs))) : DE (tOp (rNinA K) ta tb) Δ (.own (J (!(lk qs y).isSome))) :=
  de_op ha hb fun u v G H Q s r1 r2 q => by
    obtain ⟨a, o, rfl, g, h⟩ := dget_t s r2 r1
    refine .inr (.inr ⟨a, o, rfl, g, ?_⟩)
    have : o.isSome = (lk qs y).isSome := by rcases h with ⟨h1, h2⟩ | ⟨_, _, h1, h2, _⟩ <;> rw [h1, h2] <;> rfl
    rw [this]; exact q _ G H (Ext.refl s) OwnR_bl
theorem de_ixD (ha : DE ta Δ (.vw (Dk f ps))) (hb : DE tb Δ (.vw (J x))) (h : lk ps x = some b) : DE (tOp (rIxA K) ta tb) Δ (.vw (f b)) :=
  de_opV ha hb fun u v G H Q s r1 r2 q => by
    obtain ⟨a, o, rfl, g, h'⟩ := dget_k s r1 r2
    rcases h' with ⟨_, h2⟩ | ⟨u, b', h1, h2, h3⟩
    · rw [h] at h2; cases h2
    · rw [h] at h2; cases h2
      subst h1
      exact .inr ⟨a, u, rfl, g, q u h3⟩
theorem de_ixDt (ha : DE ta Δ (.vw (Dt f qs))) (hb : DE tb Δ (.vw (J y))) (h : lk qs y = some b) : DE (tOp (rIxA K) ta tb) Δ (.vw (f b)) :=
  de_opV ha hb fun u v G H Q s r1 r2 q => by
    obtain ⟨a, o, rfl, g, h'⟩ := dget_t s r1 r2
    rcases h' with ⟨_, h2⟩ | ⟨u, b', h1, h2, h3⟩
    · rw [h] at h2; cases h2
    · rw [h] at h2; cases h2
      subst h1
      exact .inr ⟨a, u, rfl, g, q u h3⟩
/-- {} -/
theorem de_newD : DE tDNewK Δ (.own (Dk f ([] : List (κ × β)))) := fun n σ G H Q o q => fun p hp => q _ G _ (Ext.new o.sG hp _) ⟨[p], .d upd_same rfl .nil, by simp, fun a ha => by
  have : a = p := by simpa using ha
  subst this; exact ⟨hp, o.sG.free hp⟩⟩
theorem de_newDt : DE tDNewT Δ (.own (Dt f ([] : List (Tu Nm × β)))) := fun n σ G H Q o q => fun p hp => q _ G _ (Ext.new o.sG hp _) ⟨[p], .t upd_same rfl .nil, by simp, fun a ha => by
  have : a = p := by simpa using ha
  subst this; exact ⟨hp, o.sG.free hp⟩⟩

/-! ### a store -/
theorem put_rel {κ β ι : Type} [DecidableEq κ] [DecidableEq ι] {f : β → OT} {x : κ} {b : β} {G H : Hp} {e : κ → ι} (inj : ∀ x y, e x = e y ↔ x = y) {v : V} {fv : List Addr} (rv : OR G H v (f b) fv) : ∀ {kvs : List (ι × V)} {ps : List (κ × β)} {fp : List Addr}, kvs.map (·.1) = ps.map (fun p => e p.1) → ORs G H (kvs.map (·.2)) (ps.map fun p => f p.2) fp →
    (ps.map (·.1)).Nodup → (putK kvs (e x) v).map (·.1) = (ptd ps x b).map (fun p => e p.1) ∧ ∃ fp', ORs G H ((putK kvs (e x) v).map (·.2)) ((ptd ps x b).map fun p => f p.2) fp' ∧ ∃ fr, (fr ++ fp').Perm (fv ++ fp) := by
  intro kvs ps fp h r nd
  have any_eq : ∀ {kvs : List (ι × V)} {ps : List (κ × β)}, kvs.map (·.1) = ps.map (fun p => e p.1) → (kvs.any fun kv => decide (kv.1 = e x)) = (ps.any fun p => decide (p.1 = x)) := by
    intro kvs
    induction kvs with
    | nil => intro ps h; cases ps with
      | nil => rfl
      | cons p ps => simp at h
    | cons kv kvs ih => intro ps h; cases ps with
      | nil => simp at h
      | cons p ps =>
        simp only [List.map_cons, List.cons.injEq] at h
        rw [List.any_cons, List.any_cons, ih h.2, h.1]
        congr 1
        by_cases q : p.1 = x
        · simp [q]
        · have : ¬ e p.1 = e x := fun z => q ((inj _ _).mp z)
          simp [q, this]
  unfold putK ptd
  rw [any_eq h]
  by_cases hany : (ps.any fun p => decide (p.1 = x)) = true
  · rw [if_pos hany, if_pos hany]
    clear any_eq
    induction kvs generalizing ps fp with
    | nil => cases ps with
      | nil => simp at hany
      | cons p ps => simp at h
    | cons kv kvs ih => cases ps with
      | nil => simp at h
      | cons p ps =>
        simp only [List.map_cons, List.cons.injEq] at h
        simp only [List.map_cons] at r
        cases r with
        | @cons _ _ _ _ g gs a c =>
          simp only [List.map_cons, List.nodup_cons] at nd
          by_cases q : p.1 = x
          · have q' : kv.1 = e x := by rw [h.1, q]
            have rest : ∀ p' ∈ ps, ¬ p'.1 = x := fun p' hp' z => nd.1 (by rw [q, ← z]; exact List.mem_map_of_mem (f := (·.1)) hp')
            have rest2 : ∀ kv' ∈ kvs, ¬ kv'.1 = e x := fun kv' hk z => by
              have : kv'.1 ∈ ps.map (fun p => e p.1) := by rw [← h.2]; exact List.mem_map_of_mem (f := (·.1)) hk
              obtain ⟨p', hp', e'⟩ := List.mem_map.mp this
              exact rest p' hp' ((inj _ _).mp (e'.trans z))
            have e1 : kvs.map (fun kv => if kv.1 = e x then (kv.1, v) else kv) = kvs := by
              rw [List.map_congr_left (g := id) (fun kv hk => by rw [if_neg (rest2 kv hk)]; rfl), List.map_id]
            have e2 : ps.map (fun p => if p.1 = x then (p.1, b) else p) = ps := by
              rw [List.map_congr_left (g := id) (fun p hk => by rw [if_neg (rest p hk)]; rfl), List.map_id]
            simp only [List.map_cons, e1, e2, if_pos q, if_pos q']
            refine ⟨by rw [h.1, h.2], fv ++ gs, .cons rv c, g, ?_⟩
            rw [← List.append_assoc, ← List.append_assoc]
            exact List.Perm.append_right gs List.perm_append_comm
          · have q' : ¬ kv.1 = e x := by rw [h.1]; exact fun z => q ((inj _ _).mp z)
            have hany' : (ps.any fun p => decide (p.1 = x)) = true := by simpa [q] using hany
            obtain ⟨k1, fp', k2, fr, k3⟩ := ih h.2 c nd.2 hany'
            simp only [List.map_cons, if_neg q, if_neg q']
            refine ⟨by rw [h.1, k1], g ++ fp', .cons a k2, fr, ?_⟩
            have t1 : (fr ++ (g ++ fp')).Perm (g ++ (fr ++ fp')) := by
              rw [← List.append_assoc, ← List.append_assoc]
              exact List.Perm.append_right fp' List.perm_append_comm
            refine t1.trans ((List.Perm.append_left g k3).trans ?_)
            rw [← List.append_assoc, ← List.append_assoc]
            exact List.Perm.append_right gs List.perm_append_comm
  · rw [if_neg hany, if_neg hany]
    refine ⟨by simp [h], fp ++ fv, ?_, [], by simpa using List.perm_append_comm⟩
    have := ORs_app r (ORs.cons rv .nil)
    simpa using this
end
end U

set_option Elab.async false
set_option linter.all false
set_option maxRecDepth 100000
set_option maxHeartbeats 4000000
namespace U
open PySem PySem.Spec L2
open En (enc)
theorem ORs.swap {G H : Hp} {u : V} {x : OT} {fu : List Addr} : ∀ {vs : List V} {ts : List OT} {fp : List Addr} {j : Nat}, ORs G H vs ts fp → OR G H u x fu → j < ts.length → ∃ fp', ORs G H (vs.set j u) (ts.set j x) fp' ∧ ∃ fr, (fr ++ fp').Perm (fu ++ fp)
  | _, _, _, _, .nil, _, h => by simp at h
  | v :: vs, w :: ts, _, 0, @ORs.cons _ _ _ _ _ _ g gs a c, o, h => by
    refine ⟨fu ++ gs, .cons o c, g, ?_⟩
    rw [← List.append_assoc, ← List.append_assoc]
    exact List.Perm.append_right gs List.perm_append_comm
  | v :: vs, w :: ts, _, j + 1, @ORs.cons _ _ _ _ _ _ g gs a c, o, h => by
    obtain ⟨fp', k2, fr, k3⟩ := ORs.swap (j := j) c o (by simpa using h)
    refine ⟨g ++ fp', .cons a k2, fr, ?_⟩
    have t1 : (fr ++ (g ++ fp')).Perm (g ++ (fr ++ fp')) := by
      rw [← List.append_assoc, ← List.append_assoc]
      exact List.Perm.append_right fp' List.perm_append_comm
    refine t1.trans ((List.Perm.append_left g k3).trans ?_)
    rw [← List.append_assoc, ← List.append_assoc]
    exact List.Perm.append_right gs List.perm_append_comm
section
variable {K : PySem.W.Frag} {te ta tb tl : TE} {tA : TA} {Δ Δ' : List Sl} {P : Pst} {i : Nat} {r s : OT} {π : List Nat} {tr : OT} {κ β : Type} [En κ] [DKey κ] [DecidableEq κ] {f : β → OT} {ps : List (κ × β)} {x : κ} {qs : List (Tu Nm × β)} {y : Tu Nm} {b : β}
/-- d[k] = e, d at a place -/
theorem ds_putD (hv : DV ta Δ i π) (hΔ : Δ[i]? = some (.own tr)) (ht : tr.at π = some (Dk f ps)) (he : DE te Δ (.own (f b))) (hk : DE tb Δ (.vw (J x))) (nd : (ps.map (·.1)).Nodup) (hz : ps.length < sizeLine) (hn : P.nx (Δ.set i (.own (tr.set π (Dk f (ptd ps x b)))))) :
    DS (tAsg te (gSub ta tb rSetA)) Δ P := fun n σ G H D o s => he n σ G H _ o fun v G1 H1 e1 ⟨fv, wv, nv, zv⟩ => hv n σ G1 H1 _ (o.ext e1) fun v0 w0 ev ew => hk n σ G1 H1 _ (o.ext e1) fun u G2 H2 e2 ru => by
  have e12 := e1.trans e2
  obtain ⟨v2, w2, f2, ev2, ew2, ro2, nf, zf, k⟩ := o.mut e12 hΔ ht
  rw [ev] at ev2; cases ev2
  rw [Vat_ext e2.sH ew] at ew2; cases ew2
  cases ro2 with
  | @d a kvs _ _ fp2 h2 ek rs2 =>
    obtain ⟨na, nfp⟩ := List.nodup_cons.mp nf
    have dis : ∀ q ∈ fp2, q ∉ fv := fun q hq hq2 => by
      have := (zv q hq2).1
      obtain ⟨u, e⟩ := (zf q (List.mem_cons_of_mem _ hq)).2
      rw [e] at this; cases this
    have nav : a ∉ fv := fun hr => by
      have := (zv a hr).1
      obtain ⟨u, q⟩ := (zf a List.mem_cons_self).2
      rw [q] at this; cases this
    obtain ⟨k1, fp', k2, fr, k3⟩ := put_rel (f := f) (b := b) (x := x) (e := DKey.k) DKey.inj ((wv.mono e2.sG e2.sH).aft (a := a) (o := .dK (putK kvs (DKey.k x) v)) nav) ek (rs2.aft (o := .dK (putK kvs (DKey.k x) v)) na) nd
    have nd3 : (fr ++ fp').Nodup := k3.nodup_iff.mpr (List.nodup_append.mpr ⟨nv, nfp, fun q hq q' hq' e => by subst e; exact dis q hq' hq⟩)
    obtain ⟨_, nd4, _⟩ := List.nodup_append.mp nd3
    have eu := DKey.rd H2 u x (VR_J e2.gh ru)
    have inn : ∀ q ∈ fp', q ∈ fv ∨ q ∈ fp2 := fun q hq => List.mem_append.mp (k3.mem_iff.mp (List.mem_append_right _ hq))
    refine .inr ⟨a, _, rfl, .inl ⟨kvs, DKey.k x, h2, eu, ?_, rfl⟩, s.nx _ σ G2 _ hn (k _ (Dk f (ptd ps x b)) (a :: fp') ?_ (.d upd_same k1 k2) ?_ ?_)⟩
    · have := congrArg List.length ek
      simp only [List.length_map] at this
      omega
    · exact fun b u hb q => by rw [upd_ne (fun z => hb (by rw [z]; exact List.mem_cons_self))]; exact q
    · exact List.nodup_cons.mpr ⟨fun q => (inn a q).elim nav na, nd4⟩
    · intro q hq
      rcases List.mem_cons.mp hq with rfl | hq
      · exact .inl List.mem_cons_self
      · rcases inn q hq with hq | hq
        · refine .inr ⟨(zv q hq).1, e2.gn (zv q hq).2 ?_⟩
          obtain ⟨u, e⟩ := wv.dom q hq
          rw [e]; exact fun z => by cases z
        · exact .inl (List.mem_cons_of_mem _ hq)
theorem ds_putDt (hv : DV ta Δ i π) (hΔ : Δ[i]? = some (.own tr)) (ht : tr.at π = some (Dt f qs)) (he : DE te Δ (.own (f b))) (hk : DE tb Δ (.vw (J y))) (nd : (qs.map (·.1)).Nodup) (hz : qs.length < sizeLine) (hn : P.nx (Δ.set i (.own (tr.set π (Dt f (ptd qs y b)))))) :
    DS (tAsg te (gSub ta tb rSetA)) Δ P := fun n σ G H D o s => he n σ G H _ o fun v G1 H1 e1 ⟨fv, wv, nv, zv⟩ => hv n σ G1 H1 _ (o.ext e1) fun v0 w0 ev ew => hk n σ G1 H1 _ (o.ext e1) fun u G2 H2 e2 ru => by
  have e12 := e1.trans e2
  obtain ⟨v2, w2, f2, ev2, ew2, ro2, nf, zf, k⟩ := o.mut e12 hΔ ht
  rw [ev] at ev2; cases ev2
  rw [Vat_ext e2.sH ew] at ew2; cases ew2
  cases ro2 with
  | @t a kvs _ _ fp2 h2 ek rs2 =>
    obtain ⟨na, nfp⟩ := List.nodup_cons.mp nf
    have dis : ∀ q ∈ fp2, q ∉ fv := fun q hq hq2 => by
      have := (zv q hq2).1
      obtain ⟨u, e⟩ := (zf q (List.mem_cons_of_mem _ hq)).2
      rw [e] at this; cases this
    have nav : a ∉ fv := fun hr => by
      have := (zv a hr).1
      obtain ⟨u, q⟩ := (zf a List.mem_cons_self).2
      rw [q] at this; cases this
    have inj : ∀ x y : Tu Nm, DtK x.l = DtK y.l ↔ x = y := fun x y => ⟨fun h => by cases x; cases y; simp only [Tu.mk.injEq]; exact DtK_inj.mp h, fun h => by rw [h]⟩
    obtain ⟨k1, fp', k2, fr, k3⟩ := put_rel (f := f) (b := b) (x := y) (e := fun z : Tu Nm => DtK z.l) inj ((wv.mono e2.sG e2.sH).aft (a := a) (o := .dT (putK kvs (DtK y.l) v)) nav) ek (rs2.aft (o := .dT (putK kvs (DtK y.l) v)) na) nd
    have nd3 : (fr ++ fp').Nodup := k3.nodup_iff.mpr (List.nodup_append.mpr ⟨nv, nfp, fun q hq q' hq' e => by subst e; exact dis q hq' hq⟩)
    obtain ⟨_, nd4, _⟩ := List.nodup_append.mp nd3
    have h3 : Dq H2 u (.tuple (y.l.map enc)) := VR_J e2.gh ru
    have inn : ∀ q ∈ fp', q ∈ fv ∨ q ∈ fp2 := fun q hq => List.mem_append.mp (k3.mem_iff.mp (List.mem_append_right _ hq))
    cases h3 with
    | tup hb rb =>
      refine .inr ⟨a, _, rfl, .inr ⟨kvs, DtK y.l, _, h2, rfl, by rw [hb, tup_key rb], ?_, rfl⟩, s.nx _ σ G2 _ hn (k _ (Dt f (ptd qs y b)) (a :: fp') ?_ (.t upd_same k1 k2) ?_ ?_)⟩
      · have := congrArg List.length ek
        simp only [List.length_map] at this
        omega
      · exact fun b u hb q => by rw [upd_ne (fun z => hb (by rw [z]; exact List.mem_cons_self))]; exact q
      · exact List.nodup_cons.mpr ⟨fun q => (inn a q).elim nav na, nd4⟩
      · intro q hq
        rcases List.mem_cons.mp hq with rfl | hq
        · exact .inl List.mem_cons_self
        · rcases inn q hq with hq | hq
          · refine .inr ⟨(zv q hq).1, e2.gn (zv q hq).2 ?_⟩
            obtain ⟨u, e⟩ := wv.dom q hq
            rw [e]; exact fun z => by cases z
          · exact .inl (List.mem_cons_of_mem _ hq)
/-- xs[k] = e, xs at a place -/
theorem ds_setL {ts : List OT} {z : Int} {j : Nat} (hv : DV ta Δ i π) (hΔ : Δ[i]? = some (.own tr)) (ht : tr.at π = some (.l ts)) (he : DE te Δ (.own r)) (hk : DE tb Δ (.vw (J z))) (hj : ixN ts.length z = some j) (hn : P.nx (Δ.set i (.own (tr.set π (.l (ts.set j r)))))) :
    DS (tAsg te (gSub ta tb rSetA)) Δ P := fun n σ G H D o s => he n σ G H _ o fun v G1 H1 e1 ⟨fv, wv, nv, zv⟩ => hv n σ G1 H1 _ (o.ext e1) fun v0 w0 ev ew => hk n σ G1 H1 _ (o.ext e1) fun u G2 H2 e2 ru => by
  have e12 := e1.trans e2
  have eu := VR_int ru
  subst eu
  obtain ⟨v2, w2, f2, ev2, ew2, ro2, nf, zf, k⟩ := o.mut e12 hΔ ht
  rw [ev] at ev2; cases ev2
  rw [Vat_ext e2.sH ew] at ew2; cases ew2
  cases ro2 with
  | @l a vs _ fp2 h2 rs2 =>
    obtain ⟨na, nfp⟩ := List.nodup_cons.mp nf
    have dis : ∀ q ∈ fp2, q ∉ fv := fun q hq hq2 => by
      have := (zv q hq2).1
      obtain ⟨u, e⟩ := (zf q (List.mem_cons_of_mem _ hq)).2
      rw [e] at this; cases this
    have nav : a ∉ fv := fun hr => by
      have := (zv a hr).1
      obtain ⟨u, q⟩ := (zf a List.mem_cons_self).2
      rw [q] at this; cases this
    have hj' : j < ts.length := by
      unfold ixN at hj
      split at hj
      · split at hj
        · cases hj; omega
        · cases hj
      · split at hj
        · cases hj; omega
        · cases hj
    obtain ⟨fp', k2, fr, k3⟩ := ORs.swap ((rs2.aft (o := .lst (vs.set j v)) na)) ((wv.mono e2.sG e2.sH).aft (a := a) (o := .lst (vs.set j v)) nav) hj'
    have nd3 : (fr ++ fp').Nodup := k3.nodup_iff.mpr (List.nodup_append.mpr ⟨nv, nfp, fun q hq q' hq' e => by subst e; exact dis q hq' hq⟩)
    obtain ⟨_, nd4, _⟩ := List.nodup_append.mp nd3
    have inn : ∀ q ∈ fp', q ∈ fv ∨ q ∈ fp2 := fun q hq => List.mem_append.mp (k3.mem_iff.mp (List.mem_append_right _ hq))
    refine .inl ⟨a, vs, z, j, rfl, rfl, h2, by rw [rs2.len]; exact hj, s.nx _ σ G2 _ hn (k _ (.l (ts.set j r)) (a :: fp') ?_ (.l upd_same k2) ?_ ?_)⟩
    · exact fun b u hb q => by rw [upd_ne (fun z => hb (by rw [z]; exact List.mem_cons_self))]; exact q
    · exact List.nodup_cons.mpr ⟨fun q => (inn a q).elim nav na, nd4⟩
    · intro q hq
      rcases List.mem_cons.mp hq with rfl | hq
      · exact .inl List.mem_cons_self
      · rcases inn q hq with hq | hq
        · refine .inr ⟨(zv q hq).1, e2.gn (zv q hq).2 ?_⟩
          obtain ⟨u, e⟩ := wv.dom q hq
          rw [e]; exact fun z => by cases z
        · exact .inl (List.mem_cons_of_mem _ hq)
end
end U

set_option Elab.async false
set_option linter.all false
set_option maxRecDepth 100000
set_option maxHeartbeats 4000000
namespace U
open PySem PySem.Spec L2
open En (enc)
section
variable {K : PySem.W.Frag} {te ta tb tl : TE} {tA : TA} {wi : TI} {g : TG} {tt : TT} {is : List Nat} {Δ Δ' : List Sl} {P : Pst} {i : Nat} {r s : OT} {δ α β : Type} [En α] [En β] {c : δ → Mo} {xs : List δ} {Δx : δ → List Sl} {p : δ → Bool} {f : δ → β}
theorem u65 {k : Nat} {A : Around} (r : Room k A) : A.units + 65 < cLine := by have := r.un; omega
theorem u64 {k : Nat} {A : Around} (r : Room k A) : A.units + 64 < cLine := by have := r.un; omega
theorem u1 {k : Nat} {A : Around} (r : Room k A) : A.units + 1 < cLine := by have := r.un; omega
theorem ds_never (h : False) : DS tNever Δ P := h.elim
theorem de_cast {k k' : Kd} (h : DE te Δ k) (e : k = k') : DE te Δ k' := e ▸ h
/-- comprehensions of data -/
theorem de_lcF (hi : DI false wi Δ c xs) (hg : ∀ x ∈ xs, GB g (c x) is (wipeS Δ is) (Δx x)) (ht : ∀ x ∈ xs, DT tt (Δx x) (p x)) (he : ∀ x ∈ xs, p x = true → DE te (Δx x) (.own (J (f x)))) : DE (tLc wi g tt te is) Δ (.own (JL ((xs.filter p).map f))) :=
  de_cast (de_lc hi hg ht he) (by rw [JL, List.map_map]; rfl)
theorem dt_yes : DT tYes Δ true := fun n σ G H Q o q => q G H (Ext.refl o.sG)
theorem de_lcM (hi : DI false wi Δ c xs) (hg : ∀ x ∈ xs, GB g (c x) is (wipeS Δ is) (Δx x)) (he : ∀ x ∈ xs, DE te (Δx x) (.own (J (f x)))) : DE (tLc wi g tYes te is) Δ (.own (JL (xs.map f))) :=
  de_cast (de_lcF (p := fun _ => true) hi hg (fun _ _ => dt_yes) fun x hx _ => he x hx) (by
    have : xs.filter (fun _ => true) = xs := List.filter_eq_self.mpr fun _ _ => rfl
    rw [this])
theorem de_lcP {xs : List α} {Δx : α → List Sl} {p : α → Bool} {c : α → Mo} (hi : DI false wi Δ c xs) (hg : ∀ x ∈ xs, GB g (c x) is (wipeS Δ is) (Δx x)) (ht : ∀ x ∈ xs, DT tt (Δx x) (p x)) (he : ∀ x ∈ xs, p x = true → DE te (Δx x) (.own (J x))) : DE (tLc wi g tt te is) Δ (.own (JL (xs.filter p))) :=
  de_cast (de_lcF (f := fun x => x) hi hg ht he) (by rw [List.map_id'])
theorem ltl {α : Type} {l : List α} {i : Nat} (h : (l[i]?).isSome = true) : i < l.length := by
  cases e : l[i]? with
  | none => rw [e] at h; cases h
  | some x => exact (List.getElem?_eq_some_iff.mp e).1
theorem gb_n {i : Nat} {m : Mo} {Δ : List Sl} (hi : (Δ[i]?).isSome = true := by rfl) : GB (gName i) m [i] Δ (Δ.set i (.own (.p m))) := gb_name (ltl hi) List.mem_cons_self
theorem gb_2 {K : PySem.W.Frag} {i j : Nat} {d e : PyData} {Δ : List Sl} (hi : (Δ[i]?).isSome = true := by rfl) (hj : (Δ[j]?).isSome = true := by rfl) : GB (gTup K 2 (gCons (gName i) (gCons (gName j) gNil))) (dat (.tuple [d, e])) [i, j] Δ ((Δ.set i (.own (.p (dat d)))).set j (.own (.p (dat e)))) :=
  gb_tup (gbs_cons (ltl hi) List.mem_cons_self (gbs_cons (by rw [List.length_set]; exact ltl hj) (List.mem_cons_of_mem _ List.mem_cons_self) gbs_nil)) rfl
theorem gb_3 {K : PySem.W.Frag} {i j k : Nat} {d e f : PyData} {Δ : List Sl} (hi : (Δ[i]?).isSome = true := by rfl) (hj : (Δ[j]?).isSome = true := by rfl) (hk : (Δ[k]?).isSome = true := by rfl) : GB (gTup K 3 (gCons (gName i) (gCons (gName j) (gCons (gName k) gNil)))) (dat (.tuple [d, e, f])) [i, j, k] Δ (((Δ.set i (.own (.p (dat d)))).set j (.own (.p (dat e)))).set k (.own (.p (dat f)))) :=
  gb_tup (gbs_cons (ltl hi) List.mem_cons_self (gbs_cons (by rw [List.length_set]; exact ltl hj) (List.mem_cons_of_mem _ List.mem_cons_self) (gbs_cons (by rw [List.length_set, List.length_set]; exact ltl hk) (List.mem_cons_of_mem _ (List.mem_cons_of_mem _ List.mem_cons_self)) gbs_nil))) rfl
/-- name = e -/
theorem ds_s {i : Nat} (h : DE te Δ (.own r)) (hn : P.nx (Δ.set i (.own r))) (hi : (Δ[i]?).isSome = true := by rfl) : DS (tAsg te (gName i)) Δ P := ds_set h (ltl hi) hn
/-- name = e, then the rest -/
theorem ds_l {i : Nat} {u : TS} (h : DE te Δ (.own r)) (k : DS u (Δ.set i (.own r)) P) (hi : (Δ[i]?).isSome = true := by rfl) : DS (tSeq (tAsg te (gName i)) u) Δ P := ds_then (ds_s h rfl hi) k
/-- a, b = e, then the rest -/
theorem ds_l2 {K : PySem.W.Frag} {i j : Nat} {u : TS} {d e : PyData} (h : DE te Δ (.own (.p (dat (.tuple [d, e]))))) (k : DS u ((Δ.set i (.own (.p (dat d)))).set j (.own (.p (dat e)))) P) (hi : (Δ[i]?).isSome = true := by rfl) (hj : (Δ[j]?).isSome = true := by rfl) : DS (tSeq (tAsg te (gTup K 2 (gCons (gName i) (gCons (gName j) gNil)))) u) Δ P :=
  ds_then (ds_tup (is := [i, j]) h (gbs_cons (ltl hi) List.mem_cons_self (gbs_cons (by rw [List.length_set]; exact ltl hj) (List.mem_cons_of_mem _ List.mem_cons_self) gbs_nil)) rfl rfl) k
/-- if, then the rest, where the if goes on with the same slots or returns -/
theorem ds_i {b : Bool} {tt : TT} {t u v : TS} (h : DT tt Δ b) (h1 : b = true → DS t Δ { P with nx := fun Δ' => DS v Δ' P }) (h2 : b = false → DS u Δ { P with nx := fun Δ' => DS v Δ' P }) : DS (tSeq (tIfS tt t u) v) Δ P := ds_seq (M := fun Δ' => DS v Δ' P) (ds_if h h1 h2) fun _ h => h
end
end U

set_option Elab.async false
set_option linter.all false
set_option maxRecDepth 100000
set_option maxHeartbeats 4000000
/-! the rules with the written part by its own name -/
namespace U
open PySem PySem.Spec L2
section
variable {X : Cx} {e e2 a b tg : Expr} {es : List Expr} {te ta tb to : TE} {t : TA} {pos apos cpos p2 : Pos} {f name : Str}
theorem addK (K : PySem.W.Frag) (h : X.K = K) : OpR X (binaryOp .Add) (rAddA K) := h ▸ op_addA
theorem inK (K : PySem.W.Frag) (h : X.K = K) (hu : X.A.units + 65 < cLine) : OpR X (compareOp .In) (rInA K) := h ▸ op_inA hu
theorem ninK (K : PySem.W.Frag) (h : X.K = K) (hu : X.A.units + 65 < cLine) : OpR X (compareOp .NotIn) (rNinA K) := h ▸ op_ninA hu
theorem eqK (K : PySem.W.Frag) (h : X.K = K) (hu : X.A.units + 64 < cLine) : OpR X (compareOp .Eq) (rEqD K) := h ▸ op_eqD hu
theorem neK (K : PySem.W.Frag) (h : X.K = K) (hu : X.A.units + 64 < cLine) : OpR X (compareOp .NotEq) (rNeD K) := h ▸ op_neD hu
theorem ixK (K : PySem.W.Frag) (h : X.K = K) (hu : X.A.units + 1 < cLine) : IxR X (rIxA K) := h ▸ ix_any hu
theorem slK (K : PySem.W.Frag) (h : X.K = K) : SlR X (rSlA K) := h ▸ sl_any
theorem lenK (K : PySem.W.Frag) (h : X.K = K) : CallR X (.builtin "len") (rLenA K) := h ▸ call_lenA
theorem sortedK (K : PySem.W.Frag) (h : X.K = K) (hu : X.A.units + 64 < cLine) : CallR X (.builtin "sorted") (rSortedD K) := h ▸ cr_sortedD hu
theorem anyK (K : PySem.W.Frag) (h : X.K = K) (hc : X.calm = true) : CallR X (.builtin "any") (rAny K) := h ▸ cr_any hc
theorem allK (K : PySem.W.Frag) (h : X.K = K) (hc : X.calm = true) : CallR X (.builtin "all") (rAll K) := h ▸ cr_all hc
theorem sumK (K : PySem.W.Frag) (h : X.K = K) (hc : X.calm = true) : CallR X (.builtin "sum") (rSum K) := h ▸ cr_sum hc
theorem maxK (K : PySem.W.Frag) (h : X.K = K) (hc : X.calm = true) : CallR X (.builtin "max") (rMax K) := h ▸ cr_max hc
theorem minK (K : PySem.W.Frag) (h : X.K = K) (hc : X.calm = true) : CallR X (.builtin "min") (rMin K) := h ▸ cr_min hc
def rListOf (K : PySem.W.Frag) : List V → Hp → VK → Prop := fun xs H Q => ∃ p ys, xs = [.ref p] ∧ (SqL K H p ys ∨ SqT K H p ys) ∧ ∀ l, H l = none → Q (.ref l) (upd H l (.lst ys))
theorem listK (K : PySem.W.Frag) (h : X.K = K) : CallR X (.type "list") (rListOf K) := h ▸ call_list_of
def rTupOf (K : PySem.W.Frag) : List V → Hp → VK → Prop := fun xs H Q => ∃ p ys, xs = [.ref p] ∧ ((SqL K H p ys ∧ ∀ l, H l = none → Q (.ref l) (upd H l (.tup ys))) ∨ (SqT K H p ys ∧ Q (.ref p) H))
theorem tupleK (K : PySem.W.Frag) (h : X.K = K) : CallR X (.type "tuple") (rTupOf K) := h ▸ call_tuple_of
theorem fldK (K : PySem.W.Frag) (h : X.K = K) (he : PE X e ta) (hb : attributeBase e f X.env (eval e X.env) = eval e X.env) : PE X (.Attribute e f pos) (tFld K ta f) := h ▸ pe_fld he hb
theorem seqK (K : PySem.W.Frag) (h : X.K = K) (he : PE X e te) : PI X tg e (iSeq K te) := h ▸ pi_seq he
theorem szK (K : PySem.W.Frag) (h : X.K = K) (he : PE X e te) : PE X e (tSz K te) := h ▸ pz he
theorem gtupK (K : PySem.W.Frag) (h : X.K = K) {es : List Expr} {k : Nat} {t : TGs} {n : Nat} (hc : X.calm = true) (hh : PGs X es t) (hn : (assignEach es X.env).length = n := by rfl) (hst : (assignEach es X.env).findIdx? (·.1) = none := by rfl) : PG X (.Tuple es k pos) (gTup K n t) := h ▸ pg_tup hc hh hn hst
theorem bmK (K : PySem.W.Frag) (h : X.K = K) {T id : String} {r : V → List V → Hp → VK → Prop} {o : Expr} {e : Expr} {es : List Expr} (pa : PlainAttrs T) (slot : Slot T name id) (hty : typeOf (.builtin id) = pure (.type "method_descriptor")) (hm : MtR X id r) (ho : PE X o to) (ha : PA X (e :: es) t)
    (hbase : attributeBase o name X.env (eval o X.env) = eval o X.env := by rfl)
    (hfew : ((backTo cpos (starEach (e :: es) X.env)).all (fun x => !x.1) && (backToKw cpos (keywordEach [] X.env)).all (fun x => x.1.isSome)
      && decide ((e :: es).length + ([] : List Keyword).length + (if ([] : List Keyword).isEmpty then 0 else 1) < 30)) = true := by rfl)
    (hline : (apos.endLine == cpos.line) = true := by rfl) (hs : starEach (e :: es) X.env = (false, eval e X.env) :: starEach es X.env := by rfl) (hplain : (backTo cpos (starEach es X.env)).any (·.1) = false := by rfl) :
    PE X (.Call (.Attribute o name apos) (e :: es) [] cpos) (tBM K T r to t) := h ▸ pe_bm pa slot hty hm ho ha hbase hfew hline hs hplain
theorem bm0K (K : PySem.W.Frag) (h : X.K = K) {T id : String} {r : V → List V → Hp → VK → Prop} {o : Expr} (pa : PlainAttrs T) (slot : Slot T name id) (hty : typeOf (.builtin id) = pure (.type "method_descriptor")) (hm : MtR X id r) (ho : PE X o to)
    (hbase : attributeBase o name X.env (eval o X.env) = eval o X.env := by rfl) (hline : (apos.endLine == cpos.line) = true := by rfl) : PE X (.Call (.Attribute o name apos) [] [] cpos) (tBM0 K T r to) := h ▸ pe_bm0 pa slot hty hm ho hbase hline
theorem enumK (K : PySem.W.Frag) (h : X.K = K) {ta : TA} {p pos tpos : Pos} {elts : List Expr} {kk : Nat} (hg : Gl X "enumerate") (hm : X.mg "enumerate" = none) (ha : PA X [e] ta) (hs : starEach [e] X.env = [(false, eval e X.env)] := by rfl) :
    PI X (.Tuple elts kk tpos) (.Call (.Name "enumerate" p) [e] [] pos) (iEnum K ta) := h ▸ pi_enum hg hm ha hs
theorem pfldK (K : PySem.W.Frag) (h : X.K = K) {o value : Expr} {tv : TE} {pos' : Pos} (ha : PE X o ta) (hv : PE X value tv) (hs : swapsWith value (some (.Attribute o f pos')) pos.line X.env = pure false) : PS X (.Assign [.Attribute o f pos'] value pos) (sFld K ta tv f) := h ▸ ps_fld ha hv hs
end
section
variable {K : PySem.W.Frag} {te : TE} {Δ : List Sl} {α : Type} [En α]
theorem de_list' {xs : List α} (h : DE te Δ (.vw (JL xs))) : DE (tCB (rListOf K) (tCons te tNil)) Δ (.own (JL xs)) := de_list h
theorem de_listT' {xs : Tu α} (h : DE te Δ (.vw (J xs))) : DE (tCB (rListOf K) (tCons te tNil)) Δ (.own (JL xs.l)) := de_listT h
theorem de_tuple' {xs : List α} (h : DE te Δ (.vw (JL xs))) : DE (tCB (rTupOf K) (tCons te tNil)) Δ (.own (J (Tu.mk xs))) := de_tuple h
theorem de_f {C : Addr} {ns : List Str} {ts : List OT} {f : Str} {s : OT} (k : Nat) (h : DE te Δ (.vw (.o C ns ts))) (hc : Cls K C) (na : NoAttr K C f) (hk : ns[k]? = some f := by rfl) (hj : f ∉ ns.take k := by decide +kernel) (hs : ts[k]? = some s := by rfl) : DE (tFld K te f) Δ (.vw s) :=
  de_fld h hc na hk (fun j hjk e => hj (List.mem_iff_getElem?.mpr ⟨j, by rw [List.getElem?_take_of_lt hjk]; exact e⟩)) hs
theorem dv_f {i : Nat} {π : List Nat} {tr : OT} {C : Addr} {ns : List Str} {ts : List OT} {f : Str} (k : Nat) (h : DV te Δ i π) (hΔ : Δ[i]? = some (.own tr)) (ht : tr.at π = some (.o C ns ts)) (hc : Cls K C) (na : NoAttr K C f) (hk : ns[k]? = some f := by rfl) (hj : f ∉ ns.take k := by decide +kernel) : DV (tFld K te f) Δ i (π ++ [k]) :=
  dv_fld h hΔ ht hc na hk fun j hjk e => hj (List.mem_iff_getElem?.mpr ⟨j, by rw [List.getElem?_take_of_lt hjk]; exact e⟩)
end
end U

set_option Elab.async false
set_option linter.all false
set_option maxRecDepth 100000
set_option maxHeartbeats 4000000
namespace U
open PySem PySem.Spec L2
open En (enc)
section
variable {X : Cx} {pos : Pos} {k v : Expr} {tk tv : TE}
/-- {k: v}, k a tuple -/
def tDisp1T (tk tv : TE) : TE := fun σ H Q => ∀ p, H p = none → tk σ (upd H p (.dT [])) fun x H1 => tv σ H1 fun y H2 => H2 p = some (.dT []) ∧ ∃ b ks, x = .ref b ∧ H2 b = some (.tup (ks.map kV)) ∧ Q (.ref p) (upd H2 p (.dT [(ks, y)]))
theorem pe_disp1T (hu : X.A.units + 1 < cLine) (hk : PE X k tk) (hv : PE X v tv) : PE X (.Dict [some k] [v] pos) (tDisp1T tk tv) := by
  refine ⟨fun pins s σ H Q I q => ?_⟩
  have hn := I.hok.fresh (Nat.le_refl s.heap.objs.size)
  have I1 := I.laid (a := s.heap.objs.size) (o := .dT []) (h' := s.heap.push { cls := .type "dict", data := .dict #[] }) (t' := s.toks) (fun _ _ q => Heap.get?_push_of_some _ q) (Nat.le_refl _) (dt_empty s.heap I.big)
  have h := q _ hn
  rw [arm_eval_Dict, show (evalEachOpt [some k] X.env).zip ((evalEach [v] X.env).map fun v => do let x ← v; standAt pos; pure x) = (pairTrees [some k] [v] X.env pos).map fun p => (some p.1, p.2) from rfl, dictDisplay_pairs (pairTrees [some k] [v] X.env pos) (fun z => by cases z) (by show 1 < 17; omega)]
  refine wpAny_bind (wpAny_standAt (wpAny_bind (wpAny_subDictH (knd := tupleKind (mixKind X.prog X.w)) (Q := fun d s' => wpAny (model X.prog X.w) X.A (pure (Value.ref d)) (EP X pins σ Q) X.xe s') (show X.A.units < cLine by omega) (show 1 ≤ 15 by omega) ?_)))
  refine thn (Q := fun vs s' => ∃ (H2 : Hp) (x y : V) (u w2 : Value), vs = [(u, w2)] ∧ Inv X pins σ H2 s' ∧ RelV x u ∧ RelV y w2 ∧ H2 s.heap.objs.size = some (.dT []) ∧ ∃ b ks, x = .ref b ∧ H2 b = some (.tup (ks.map kV)) ∧ Q (.ref s.heap.objs.size) (upd H2 s.heap.objs.size (.dT [(ks, y)]))) (pairTrees_cons_walk (thn (hk.run pins _ σ _ _ I1 h) fun u s1 ⟨x, H1, I2, rx, q1⟩ => thn (hv.run pins s1 σ H1 _ I2 q1) fun w2 s2 ⟨y, H2, I3, ry, q2⟩ =>
    pairTrees_nil_walk ⟨H2, x, y, u, w2, rfl, I3, rx, ry, q2⟩)) fun vs s' hh => ?_
  obtain ⟨H2, x, y, u, w2, rfl, I3, rx, ry, e, b, ks, rfl, eb, q3⟩ := hh
  cases rx
  obtain ⟨z, hd, xs, rel, dd⟩ := L2.dt_of I3.hok e
  cases rel
  have hkey := key_of (P := X.prog) (w := X.w) I3.hok eb
  refine ⟨[(ks, b, w2)], ⟨rfl, rfl, hkey, trivial⟩, dd, fun h' tk' dd' hs => wpAny_pure ⟨.ref s.heap.objs.size, _, ?_, rfl, q3⟩⟩
  obtain ⟨o, es, ep, h1, h2, h3, h4, h5, h6⟩ := dd'
  have hs' : Heap.SameBut s.heap.objs.size s'.heap h' := hs
  refine d_write I3 (by rw [e]; exact True.intro) hs' ⟨o, h1⟩ ⟨by show 1 ≤ sizeLine; decide, hd, [(ks, b, w2)], .cons ⟨rfl, ?_, ry⟩ .nil, o, es, ep, h1, h2, h3, h4, h6⟩
  rw [upd_ne (ne_of eb e (fun z => nomatch z))]
  exact eb
end
end U

set_option Elab.async false
set_option linter.all false
set_option maxRecDepth 100000
set_option maxHeartbeats 4000000
namespace U
open PySem PySem.Spec L2
open En (enc)
section
variable {K : PySem.W.Frag} {te ta tb tl tk tv : TE} {tA : TA} {Δ Δ' : List Sl} {P : Pst} {i : Nat} {r s : OT} {π : List Nat} {tr : OT} {κ β : Type} [En κ] [DKey κ] [DecidableEq κ] {f : β → OT} {ps : List (κ × β)} {x : κ} {y : Tu Nm} {b : β}
/-- {k: v}, k a tuple -/
theorem de_disp1T (hk : DE tk Δ (.own (J y))) (hv : DE tv Δ (.own (f b))) : DE (tDisp1T tk tv) Δ (.own (Dt f [(y, b)])) := fun n σ G H Q o q => fun p hp => by
  have e0 := Ext.new o.sG hp (.dT [])
  refine hk n σ G _ _ (o.ext e0) fun u G1 H1 e1 ⟨_, wk, _⟩ => hv n σ G1 H1 _ ((o.ext e0).ext e1) fun v G2 H2 e2 ⟨fv, wv, nv, zv⟩ => ?_
  have e12 := e1.trans e2
  have hpd : H2 p = some (.dT []) := e12.sH _ _ upd_same
  have gp : G2 p = none := e12.gn (o.sG.free hp) (by rw [upd_same]; exact fun z => by cases z)
  cases wk with
  | p wk =>
    have wk' : Dq G1 u (.tuple (y.l.map enc)) := wk
    cases wk' with
    | @tup c vs ds hb rb =>
      refine ⟨hpd, c, DtK y.l, rfl, by rw [e2.gh _ _ (e2.sG _ _ hb), tup_key rb], q _ G2 _ ⟨fun b u e => ?_, e12.sG, fun b u e => ?_, fun a u h => ?_⟩ ?_⟩
      · rw [upd_ne (ne_of_none e hp)]
        exact e12.sH _ _ (by rw [upd_ne (ne_of_none e hp)]; exact e)
      · rw [upd_ne (ne_of_none e gp)]; exact e12.gh _ _ e
      · rcases e12.fr a u h with h | h
        · exact .inl h
        · exact .inr (e0.sH.free h)
      · have npv : p ∉ fv := fun h => by
          have := (zv p h).1
          rw [e1.sH _ _ upd_same] at this; cases this
        refine ⟨p :: fv, .t upd_same rfl ?_, List.nodup_cons.mpr ⟨npv, nv⟩, fun a ha => ?_⟩
        · have := ORs.cons (wv.aft (a := p) (o := .dT [(DtK y.l, v)]) npv) .nil
          simpa using this
        · rcases List.mem_cons.mp ha with rfl | ha
          · exact ⟨hp, gp⟩
          · exact ⟨(e0.sH.trans e1.sH).free (zv a ha).1, (zv a ha).2⟩
/-- sorted(d), d a dict from names -/
theorem sortS_le {xs : List Nm} : (srt xs).Pairwise (fun a b => Ord.le a b = true) := by
  refine List.pairwise_mergeSort (fun a b c h1 h2 => ?_) (fun a b => ?_) xs
  · simp only [Ord.le, decide_eq_true_eq] at *
    exact List.le_trans h1 h2
  · simp only [Ord.le, Bool.or_eq_true, decide_eq_true_eq]
    exact List.le_total _ _
theorem nm_antisymm {a b : Nm} (h1 : Ord.le a b = true) (h2 : Ord.le b a = true) : a = b := by
  simp only [Ord.le, decide_eq_true_eq] at *
  have e : a.1.cps.toList = b.1.cps.toList := List.le_antisymm h1 h2
  apply Subtype.ext
  have : a.1.cps = b.1.cps := Array.toList_inj.mp e
  cases ha : a.1; cases hb : b.1
  rw [ha, hb] at this
  simp only at this
  rw [this]
theorem ltCps_iff : ∀ x y : List Nat, ltCps x y = decide (x < y)
  | [], [] => by simp [ltCps]
  | [], _ :: _ => by simp [ltCps]
  | _ :: _, [] => by simp [ltCps]
  | a :: x, b :: y => by
    have ih := ltCps_iff x y
    simp only [ltCps, ih]
    by_cases h : a < b
    · simp [h, List.cons_lt_cons_iff]
    · by_cases h2 : a = b
      · subst h2; simp [List.cons_lt_cons_iff]
      · simp [h, h2, List.cons_lt_cons_iff]
end
end U

set_option Elab.async false
set_option linter.all false
set_option maxRecDepth 100000
set_option maxHeartbeats 4000000
namespace U
open PySem PySem.Spec L2
open En (enc)
section
variable {K : PySem.W.Frag} {te ta tb tl tk tv : TE} {tA : TA} {to to' : TO} {Δ Δ' : List Sl} {P : Pst} {i : Nat} {r s t : OT} {π : List Nat} {tr : OT} {α κ β : Type} [En α] [En κ] [DKey κ] [DecidableEq κ] {f : β → OT} {ps : List (κ × β)} {x : κ} {y : Tu Nm} {b : β}
theorem pw_of_rising : ∀ (r : List Str) (p : Str), PyProof.Rows.risingS p r = true → (p :: r).Pairwise (fun a b => a.cps.toList ≤ b.cps.toList)
  | [], p, _ => List.pairwise_singleton _ _
  | x :: r, p, h => by
    simp only [PyProof.Rows.risingS, Bool.and_eq_true, Bool.not_eq_true'] at h
    have hx : p.cps.toList ≤ x.cps.toList := by
      have := h.1
      rw [ltCps_iff] at this
      exact List.not_lt.mp (of_decide_eq_false this)
    have ih := pw_of_rising r x h.2
    refine List.pairwise_cons.mpr ⟨fun z hz => ?_, ih⟩
    rcases List.mem_cons.mp hz with rfl | hz
    · exact hx
    · exact List.le_trans hx ((List.pairwise_cons.mp ih).1 z hz)
theorem pw_of_sortedS {ys : List Str} (h : PyProof.Rows.sortedS ys = true) : ys.Pairwise (fun a b => a.cps.toList ≤ b.cps.toList) := by
  cases ys with
  | nil => exact .nil
  | cons x r => exact pw_of_rising r x h
theorem str_of_cps' {a b : Str} (h : a.cps.toList = b.cps.toList) : a = b := by
  cases a; cases b
  simp only at h
  rw [Array.toList_inj.mp h]
theorem sorted_is_srt {xs : List Nm} {ys : List Str} (p : ys.Perm (xs.map (·.1))) (h : PyProof.Rows.sortedS ys = true) : ys = (srt xs).map (·.1) := by
  refine List.Perm.eq_of_pairwise (le := fun a b : Str => a.cps.toList ≤ b.cps.toList) (fun a b _ _ h1 h2 => str_of_cps' (List.le_antisymm h1 h2)) (pw_of_sortedS h) ?_ (p.trans (List.Perm.map _ (List.mergeSort_perm xs Ord.le).symm))
  rw [List.pairwise_map]
  exact (sortS_le (xs := xs)).imp fun {a b} h => by simpa [Ord.le] using h
def rSortDict : List V → Hp → VK → Prop := fun xs H Q => ∃ (a : Addr) (kvs : List (Key × V)) (ks : List Str), xs = [.ref a] ∧ Rd H a (.dK kvs) ∧ kvs.map (·.1) = ks.map Sum.inr ∧ ks.length < 64 ∧ ∀ ys p, ys.Perm ks → PyProof.Rows.sortedS ys = true → H p = none → Q (.ref p) (upd H p (.lst (ys.map V.str)))
theorem sortDictR {X : Cx} (h : X.calm = true) : CallR X (.builtin "sorted") rSortDict := call_sortedD h
theorem strs_Dqs {G : Hp} : ∀ xs : List Nm, Dqs G ((xs.map (·.1)).map V.str) (xs.map enc)
  | [] => .nil
  | x :: xs => .cons (.str _) (strs_Dqs xs)
theorem de_sortedD {ps : List (Nm × β)} (h : DE ta Δ (.vw (Dk f ps))) (hz : ps.length < 64) : DE (tCB rSortDict (tCons ta tNil)) Δ (.own (JL (srt (ps.map (·.1))))) :=
  de_cb (da_cons h da_nil) fun vs G H Q s r q => by
    obtain ⟨v, e0, r1⟩ := VRs_one r
    subst e0
    cases r1 with
    | @d a kvs ks ts hd e rs =>
      refine ⟨a, kvs, (ps.map (·.1)).map (·.1), rfl, hd, ?_, by simpa using hz, fun ys p pm so hp => ?_⟩
      · rw [e, List.map_map, List.map_map]; exact List.map_congr_left fun x _ => rfl
      · rw [sorted_is_srt pm so]
        exact q _ G _ (Ext.new s hp _) (OwnR_JL s (Same.refl _) hp (strs_Dqs _))
/-! ## slices -/
def cutL {δ : Type} (xs : List δ) (lo hi : Option Int) : List δ := (xs.drop (HT.sIx xs.length 0 lo)).take (HT.sIx xs.length xs.length hi - HT.sIx xs.length 0 lo)
/-- the ends of a slice -/
def DPo (to : TO) (Δ : List Sl) (z : Option Int) : Prop := ∀ (n : Ent) (σ : L2.St) (G H : Hp) (Q : Option Int → Hp → Prop), OkP n Δ σ G H → (∀ G' H', Ext G H G' H' → Q z H') → to σ H Q
theorem dpo_none : DPo tNoPart Δ none := fun n σ G H Q o q => q G H (Ext.refl o.sG)
theorem dpo_some {z : Int} (h : DE te Δ (.vw (J z))) : DPo (tPart te) Δ (some z) := fun n σ G H Q o q => h n σ G H _ o fun v G1 H1 e1 r => ⟨z, VR_int r, q G1 H1 e1⟩
theorem Dqs_cut {G : Hp} {vs : List V} {xs : List α} (h : Dqs G vs (xs.map enc)) (lo hi : Option Int) : Dqs G (cutV vs lo hi) ((cutL xs lo hi).map enc) := by
  have hl : vs.length = xs.length := by have := h.len; simpa using this
  unfold cutV cutL
  rw [hl, List.map_take, List.map_drop]
  have dr : ∀ (k : Nat) {vs : List V} {ds : List PyData}, Dqs G vs ds → Dqs G (vs.drop k) (ds.drop k) := by
    intro k
    induction k with
    | zero => intro vs ds h; exact h
    | succ k ih => intro vs ds h; cases h with
      | nil => exact .nil
      | cons a b => exact ih b
  have tk : ∀ (k : Nat) {vs : List V} {ds : List PyData}, Dqs G vs ds → Dqs G (vs.take k) (ds.take k) := by
    intro k
    induction k with
    | zero => intro vs ds h; exact .nil
    | succ k ih => intro vs ds h; cases h with
      | nil => exact .nil
      | cons a b => exact .cons a (ih b)
  exact tk _ (dr _ h)
theorem de_slL {xs : List α} {lo hi : Option Int} (h : DE te Δ (.vw (JL xs))) (h1 : DPo to Δ lo) (h2 : DPo to' Δ hi) : DE (tSl (rSlA K) te to to') Δ (.own (JL (cutL xs lo hi))) := fun n σ G H Q o q =>
  h n σ G H _ o fun v G1 H1 e1 r => h1 n σ G1 H1 _ (o.ext e1) fun G2 H2 e2 => h2 n σ G2 H2 _ ((o.ext e1).ext e2) fun G3 H3 e3 => by
    have e13 := e2.trans e3
    cases r with
    | l a b =>
      have d := Dqs_cut (Dqs.mono e13.sG (VRs_J.mp b)) lo hi
      refine .inl ⟨_, _, rfl, .of (e13.sH _ _ a), fun p hp => q _ G3 _ ((e1.trans e13).trans (Ext.new e13.gh hp _)) (OwnR_JL e13.gh (e1.trans e13).sH hp d)⟩
/-! ## texts -/
/-- any text -/
abbrev JS (z : Str) : OT := .p (dat (.str z))
theorem VR_str {G H : Hp} {v : V} {z : Str} (h : VR G H v (JS z)) : v = .str z := by
  cases h with
  | p h =>
    have h' : Dq G v (.str z) := h
    cases h'; rfl
theorem de_s {z : Str} : DE (tC (.str z)) Δ (.own (JS z)) := fun n σ G H Q o q => q _ G H (Ext.refl o.sG) (OwnR.leaf (.str z))
theorem de_ixS {z : Str} {k : Int} {c : Nat} (ha : DE ta Δ (.vw (JS z))) (hb : DE tb Δ (.vw (J k))) (hz : z.length ≤ sizeLine) (hc : atI z.cps.toList k = some c) : DE (tOp (rIxA K) ta tb) Δ (.own (JS ⟨#[c]⟩)) :=
  de_op ha hb fun u v G H Q s r1 r2 q => .inl (.inr (.inr ⟨z, k, c, VR_str r1, VR_int r2, hz, hc, q _ G H (Ext.refl s) (OwnR.leaf (.str _))⟩))
theorem de_addS {z z' : Str} (ha : DE ta Δ (.vw (JS z))) (hb : DE tb Δ (.vw (JS z'))) (hz : z.length + z'.length ≤ sizeLine) : DE (tOp (rAddA K) ta tb) Δ (.own (JS (z ++ z'))) :=
  de_op ha hb fun u v G H Q s r1 r2 q => .inr (.inr (.inl ⟨z, z', VR_str r1, VR_str r2, hz, q _ G H (Ext.refl s) (OwnR.leaf (.str _))⟩))
theorem de_mulS {z : Str} {k : Int} (ha : DE ta Δ (.vw (JS z))) (hb : DE tb Δ (.vw (J k))) (h0 : 0 ≤ k) (h1 : k ≤ 1000) (h2 : z.length ≤ 1000) : DE (tOp rMulA ta tb) Δ (.own (JS ⟨(List.replicate k.toNat z.cps).foldl (· ++ ·) #[]⟩)) :=
  de_op ha hb fun u v G H Q s r1 r2 q => .inr (.inl ⟨z, k, VR_str r1, VR_int r2, h0, h1, h2, q _ G H (Ext.refl s) (OwnR.leaf (.str _))⟩)
theorem de_inSign {z : Str} {c : Nat} (ha : DE ta Δ (.vw (JS ⟨#[c]⟩))) (hb : DE tb Δ (.vw (JS z))) : DE (tOp (rInA K) ta tb) Δ (.own (J (decide (c ∈ z.cps.toList)))) :=
  de_op ha hb fun u v G H Q s r1 r2 q => .inr (.inr (.inr ⟨c, z, VR_str r1, VR_str r2, q _ G H (Ext.refl s) OwnR_bl⟩))
theorem de_lenS {z : Str} (h : DE ta Δ (.vw (JS z))) (hz : z.length ≤ sizeLine) : DE (tCB (rLenA K) (tCons ta tNil)) Δ (.own (J z.length)) :=
  de_cb (da_cons h da_nil) fun vs G H Q s r q => by
    obtain ⟨v, e0, r1⟩ := VRs_one r
    subst e0
    exact .inr (.inl ⟨z, by rw [VR_str r1], hz, q _ G H (Ext.refl s) OwnR_nat⟩)
theorem di_str {z : Str} (h : DE te Δ (.vw (JS z))) (hz : z.length ≤ sizeLine) : DI true (iStr te) Δ (fun c : Nat => dat (.str ⟨#[c]⟩)) z.cps.toList := fun n σ G H R o q => h n σ G H _ o fun v G1 H1 e1 r => by
  have ev := VR_str r
  refine ⟨z, ev, q _ G1 H1 e1 ⟨fun k G H hk _ _ _ => (by simpa using hk : k < z.cps.size), fun k G H x H' d hd _ s2 _ y => ?_, fun G H _ _ _ => (by simp : z.cps.size ≤ z.cps.toList.length)⟩ (by simpa [Str.length] using hz)⟩
  obtain ⟨rfl, c, hc, rfl⟩ := y
  have : d = c := by
    have h1 : z.cps.toList[k]? = some c := by simpa using hc
    rw [hd] at h1; exact Option.some.inj h1
  subst this
  exact ⟨G, Ext.refl s2, .str _⟩
/-! ## a field of an object that is owned by a slot -/
theorem putF_new : ∀ {fs : List (Str × V)} {f : Str} {v : V}, f ∉ fs.map (·.1) → putF f v fs = fs ++ [(f, v)]
  | [], f, v, _ => rfl
  | (g, u) :: fs, f, v, h => by
    simp only [List.map_cons, List.mem_cons, not_or] at h
    show (if g = f then _ else _) = _
    rw [if_neg (fun e => h.1 e.symm), putF_new h.2]
    rfl
/-- self.f = e, f not stored so far -/
theorem ds_newF {C : Addr} {ns : List Str} {ts : List OT} {f : Str} (hv : DV ta Δ i π) (hΔ : Δ[i]? = some (.own tr)) (ht : tr.at π = some (.o C ns ts)) (he : DE te Δ (.own r)) (hc : Cls K C) (na : NoAttr K C f) (hf : f ∉ ns) (hz : ns.length < 1000) (hn : P.nx (Δ.set i (.own (tr.set π (.o C (ns ++ [f]) (ts ++ [r])))))) :
    DS (sFld K ta te f) Δ P := fun n σ G H D o s => he n σ G H _ o fun v G1 H1 e1 ⟨fv, wv, nv, zv⟩ => hv n σ G1 H1 _ (o.ext e1) fun v0 w0 ev ew => by
  obtain ⟨v2, w2, f2, ev2, ew2, ro2, nf, zf, k⟩ := o.mut e1 hΔ ht
  rw [ev] at ev2; cases ev2
  rw [ew] at ew2; cases ew2
  cases ro2 with
  | @o a _ dx fs _ _ fp2 h2 ek rs2 =>
    obtain ⟨na', nfp⟩ := List.nodup_cons.mp nf
    have nav : a ∉ fv := fun hr => by
      have := (zv a hr).1
      obtain ⟨u, q⟩ := (zf a List.mem_cons_self).2
      rw [q] at this; cases this
    have hf' : f ∉ fs.map (·.1) := by rw [ek]; exact hf
    have hl : fs.length < 1000 := by
      have := congrArg List.length ek
      simp only [List.length_map] at this
      omega
    refine ⟨a, C, dx, fs, rfl, h2, hc, na, hl, s.nx _ σ G1 _ hn (k _ (.o C (ns ++ [f]) (ts ++ [r])) (a :: (fp2 ++ (fv ++ []))) ?_ ?_ ?_ ?_)⟩
    · exact fun b u hb q => by rw [upd_ne (fun z => hb (by rw [z]; exact List.mem_cons_self))]; exact q
    · rw [putF_new hf']
      refine .o upd_same (by simp [ek]) ?_
      have := ORs_app (rs2.aft (a := a) (o := .ins C dx (fs ++ [(f, v)])) na') (ORs.cons (wv.aft (a := a) (o := .ins C dx (fs ++ [(f, v)])) nav) .nil)
      simpa using this
    · refine List.nodup_cons.mpr ⟨fun q => ?_, ?_⟩
      · rw [List.append_nil] at q
        exact (List.mem_append.mp q).elim na' nav
      · rw [List.append_nil]
        refine List.nodup_append.mpr ⟨nfp, nv, fun x hx y hy q => ?_⟩
        subst q
        have := (zv x hy).1
        obtain ⟨u, q⟩ := (zf x (List.mem_cons_of_mem _ hx)).2
        rw [q] at this; cases this
    · intro x hx
      rw [List.append_nil] at hx
      rcases List.mem_cons.mp hx with rfl | hx
      · exact .inl List.mem_cons_self
      · rcases List.mem_append.mp hx with hx | hx
        · exact .inl (List.mem_cons_of_mem _ hx)
        · exact .inr (zv x hx)
end
end U

set_option Elab.async false
set_option linter.all false
set_option maxRecDepth 100000
set_option maxHeartbeats 4000000
namespace U
open PySem PySem.Spec L2
open En (enc)
section
variable {K : PySem.W.Frag} {te ta tb tl : TE} {tA : TA} {tt : TT} {t u : TS} {Δ Δ' : List Sl} {P : Pst} {i j : Nat} {r s : OT} {n : Ent} {σ : L2.St} {G H G' H' : Hp} {α β : Type} [En α] [En β] {m m' : Mo} {k : Kd}
/-! ## some data with a property, as a leaf -/
def sm (S : α → Prop) : Mo := ⟨fun G v => ∃ x, S x ∧ Dq G v (enc x), fun _ _ _ s ⟨x, p, h⟩ => ⟨x, p, h.mono s⟩⟩
theorem de_imp (h : DE te Δ (.vw (.p m))) (i : ∀ G v, m.φ G v → m'.φ G v) : DE te Δ (.own (.p m')) := fun n σ G H Q o q => h n σ G H Q o fun v G1 H1 e r => by
  cases r with
  | p r => exact q v G1 H1 e (OwnR.leaf (i _ _ r))
theorem de_sm {S : α → Prop} {x : α} (h : DE te Δ (.vw (J x))) (p : S x) : DE te Δ (.own (.p (sm S))) := de_imp h fun G v r => ⟨x, p, r⟩
theorem de_smi {S S' : α → Prop} (h : DE te Δ (.vw (.p (sm S)))) (p : ∀ x, S x → S' x) : DE te Δ (.own (.p (sm S'))) := de_imp h fun G v ⟨x, q, r⟩ => ⟨x, p x q, r⟩
/-- a slot with some data: whatever it is -/
theorem OkP.open {S : α → Prop} (o : OkP n Δ σ G H) (h : Δ[i]? = some (.own (.p (sm S)))) : ∃ x, S x ∧ OkP n (Δ.set i (.own (J x))) σ G H := by
  obtain ⟨fp, r0, nd, z⟩ := o.sl
  obtain ⟨v, f, fp', ev, w, r1, pm⟩ := r0.pick h
  cases w with
  | p w =>
    obtain ⟨x, hx, w⟩ := w
    have hl : i < Δ.length := (List.getElem?_eq_some_iff.mp h).1
    obtain ⟨fc, rc, pc⟩ := r1.fill (i := i) (set_none_get hl) (.p (m := dat (enc x)) w)
    rw [List.set_set, set_self ev] at rc
    refine ⟨x, hx, o.sG, o.sB, o.g0, o.gf, fc, rc, pc.nodup_iff.mpr (by simpa using pm.nodup_iff.mpr nd), fun a ha => ?_⟩
    exact z a (pm.mem_iff.mp (by simpa using pc.mem_iff.mp ha))
theorem OkP.openV {S : α → Prop} (o : OkP n Δ σ G H) (h : Δ[i]? = some (.vw (.p (sm S)))) : ∃ x, S x ∧ OkP n (Δ.set i (.own (J x))) σ G H := by
  obtain ⟨fp, r0, nd, z⟩ := o.sl
  obtain ⟨v, ev, w⟩ := r0.getV h
  have w := w G H (Same.refl _) o.sG o.sB
  cases w with
  | p w =>
    obtain ⟨x, hx, w⟩ := w
    have hl : i < Δ.length := (List.getElem?_eq_some_iff.mp h).1
    obtain ⟨f1, r1, sb⟩ := r0.drop i (some v)
    obtain ⟨fc, rc, pc⟩ := r1.fill (i := i) (set_none_get hl) (.p (m := dat (enc x)) w)
    rw [List.set_set, List.set_set, set_self ev] at rc
    refine ⟨x, hx, o.sG, o.sB, o.g0, o.gf, fc, rc, pc.nodup_iff.mpr (by simpa using sb.nodup nd), fun a ha => ?_⟩
    exact z a (sb.subset (by simpa using pc.mem_iff.mp ha))
theorem ds_open {S : α → Prop} (i : Nat) (h : Δ[i]? = some (.own (.p (sm S)))) (k : ∀ x, S x → DS t (Δ.set i (.own (J x))) P) : DS t Δ P := fun n σ G H D o s => by
  obtain ⟨x, hx, o'⟩ := o.open h
  exact k x hx n σ G H D o' s
theorem ds_openV {S : α → Prop} (i : Nat) (h : Δ[i]? = some (.vw (.p (sm S)))) (k : ∀ x, S x → DS t (Δ.set i (.own (J x))) P) : DS t Δ P := fun n σ G H D o s => by
  obtain ⟨x, hx, o'⟩ := o.openV h
  exact k x hx n σ G H D o' s
/-! ### a hole that is evaluated first -/
/-- a value that needs no heap -/
class Pv (α : Type) [En α] where
  pv : α → V
  one : ∀ (G : Hp) (v : V) (x : α), Dq G v (enc x) → v = pv x
instance : Pv Int := ⟨.int, fun G v x h => by cases h; rfl⟩
instance : Pv Nat := ⟨fun x => .int x, fun G v x h => by cases h; rfl⟩
instance : Pv Bool := ⟨.bl, fun G v x h => by cases h; rfl⟩
instance : Pv Nm := ⟨fun x => .str x.1, fun G v x h => by cases h; rfl⟩
theorem hole_S [Pv α] {S : α → Prop} (F : TE → TS) (hF : ∀ te D σ H, F te D σ H = te σ H fun v H1 => F (tC v) D σ H1) (h : DE te Δ (.vw (.p (sm S)))) (k : ∀ x, S x → DS (F (tC (Pv.pv x))) Δ P) : DS (F te) Δ P := fun n σ G H D o s => by
  rw [hF]
  refine h n σ G H _ o fun v G1 H1 e r => ?_
  cases r with
  | p r =>
    obtain ⟨x, hx, r⟩ := r
    rw [Pv.one _ _ _ r]
    exact k x hx n σ G1 H1 D (o.ext e) s
theorem hole_E [Pv α] {S : α → Prop} (F : TE → TE) (hF : ∀ te σ H Q, F te σ H Q = te σ H fun v H1 => F (tC v) σ H1 Q) (h : DE te Δ (.vw (.p (sm S)))) (k : ∀ x, S x → DE (F (tC (Pv.pv x))) Δ (.own r)) : DE (F te) Δ (.own r) := fun n σ G H Q o q => by
  rw [hF]
  refine h n σ G H _ o fun v G1 H1 e rr => ?_
  cases rr with
  | p rr =>
    obtain ⟨x, hx, rr⟩ := rr
    rw [Pv.one _ _ _ rr]
    exact k x hx n σ G1 H1 Q (o.ext e) fun v2 G2 H2 e2 w => q v2 G2 H2 (e.trans e2) (OwnR.back w e.sH)
end

/-! ## pots: lists of two ints that are drawn from -/
def PotI (i j : Int) : Prop := -(2 ^ 64) < j ∧ j < 2 ^ 64
def potO (a : Addr) : HO := .ext fun h => ∃ (i j : Int) (its : List Value) (n : Nat), PotI i j ∧ Vals [.int i, .int j] its ∧ h.get? a = some { cls := .type "list", data := .seq its.toArray n }
def pot : Mo := ⟨fun G v => ∃ a, v = .ref a ∧ G a = some (potO a), fun _ _ _ s ⟨a, e, h⟩ => ⟨a, e, s _ _ h⟩⟩
theorem potO_own {a x : Addr} : potO a ≠ .own x := fun z => by
  have z' : HO.ext _ = HO.own x := z
  cases z'
theorem potO_tup {a : Addr} {xs : List V} : potO a ≠ .tup xs := fun z => by
  have z' : HO.ext _ = HO.tup xs := z
  cases z'
theorem potO_frz {a : Addr} {o : Obj} {u : HO} : potO a ≠ .frz o u := fun z => by
  have z' : HO.ext _ = HO.frz o u := z
  cases z'
theorem potO_tbl {a : Addr} {ps : Array Value} : potO a ≠ .tbl ps := fun z => by
  have z' : HO.ext _ = HO.tbl ps := z
  cases z'
section
variable {Pg : Program} {w : World} {K : PySem.W.Frag} {mg : Str → Option Value} {base : Heap} {H H' H0 : Hp} {h h0 : Heap} {a : Addr} {i j : Int} {fs ex : List Addr}
/-- one object is told otherwise -/
theorem hok_re {o o' : HO} (x : HOk Pg w H h) (e : H a = some o) (n1 : ∀ c, o ≠ .own c) (n2 : ∀ xs, o ≠ .tup xs) (k : ObjOk Pg w (upd H a o') h a o') : HOk Pg w (upd H a o') h := fun b u q => by
  by_cases hb : b = a
  · subst hb
    rw [upd_same] at q
    cases q
    exact k
  · rw [upd_ne hb] at q
    exact (x b u q).stay (fun _ _ _ z => z) (fun c hc => by rw [upd_ne (fun z => by rw [z, e] at hc; exact n1 _ (Option.some.inj hc))]; exact hc) fun c xs hc => by rw [upd_ne (fun z => by rw [z, e] at hc; exact n2 _ (Option.some.inj hc))]; exact hc
theorem pot_open (x : HOk Pg w H h) (e : H a = some (potO a)) : ∃ i j, PotI i j ∧ HOk Pg w (upd H a (.lst [.int i, .int j])) h := by
  have y : ObjOk Pg w H h a (.ext fun h => ∃ (i j : Int) (its : List Value) (n : Nat), PotI i j ∧ Vals [.int i, .int j] its ∧ h.get? a = some { cls := .type "list", data := .seq its.toArray n }) := x a _ e
  obtain ⟨⟨i, j, its, n, p, r, g⟩, _⟩ := y
  refine ⟨i, j, p, hok_re x e (fun c => potO_own) (fun c => potO_tup) ⟨by rw [sizeLine_eq]; show 2 ≤ 16777216; omega, its, n, r, g⟩⟩
theorem pot_close (x : HOk Pg w H h) (e : H a = some (.lst [.int i, .int j])) (p : PotI i j) : HOk Pg w (upd H a (potO a)) h := by
  obtain ⟨_, its, n, r, g⟩ := (show ObjOk Pg w H h a (.lst [.int i, .int j]) from x a _ e)
  exact hok_re x e (fun c z => by cases z) (fun c z => by cases z) ⟨⟨i, j, its, n, p, r, g⟩, ⟨_, g⟩, fun h1 h2 ⟨i, j, its, n, p, r, g⟩ k => ⟨i, j, its, n, p, r, k _ g⟩⟩
theorem upd_back {o : HO} {u : HO} (e : H a = some o) : upd (upd H a u) a o = H := by
  funext b
  by_cases hb : b = a
  · rw [hb, upd_same, e]
  · rw [upd_ne hb, upd_ne hb]
/-- draws from a pot -/
def spPot (S : Int → Prop) (R : Int → Int → Prop) : Sp := fun vs H Q _ => ∃ a m, vs = [.ref a, .int m] ∧ H a = some (potO a) ∧ S m ∧ ∀ d H', R m d → Same H H' → Q (.int d) H'
def spPot1 (S : Int → Prop) (R : Int → Int → Prop) : Sp := fun vs H Q _ => ∃ a m i j, vs = [.ref a, .int m] ∧ H a = some (.lst [.int i, .int j]) ∧ PotI i j ∧ S m ∧ ∀ d i' j' H', R m d → PotI i' j' → (∀ b o, b ≠ a → H b = some o → H' b = some o) → H' a = some (.lst [.int i', .int j']) → Q (.int d) H'
theorem pot_fn {S : Int → Prop} {R : Int → Int → Prop} {k : Nat} {f : Addr} {fd : FuncData} {ps : List Str} (F : FnOk Pg w K mg base CX0 k f fd ps (spPot1 S R)) : FnOk Pg w K mg base CX0 k f fd ps (spPot S R) where
  len := fun vs H Q E ⟨a, m, e, _, hsm, _⟩ => F.len vs (upd H a (.lst [.int 0, .int 0])) (fun _ _ => True) E ⟨a, m, 0, 0, e, upd_same, by unfold PotI; omega, hsm, fun _ _ _ _ _ _ _ _ => True.intro⟩
  run := fun A outer s H args us vs Q E hr he hb hv hs => by
    obtain ⟨a, m, ev, ea, sm, q⟩ := hs
    obtain ⟨i, j, p, hok⟩ := pot_open he.hok ea
    have nn : ∀ {b : Addr}, H b = none → b ≠ a := fun {b} n z => by rw [z, ea] at n; cases n
    have he1 : Env0 Pg w K mg base A outer s (upd H a (.lst [.int i, .int j])) := ⟨he.frames, he.mod, fun b o e => ⟨(he.bs b o e).1, by rw [upd_ne (nn (he.bs b o e).2)]; exact (he.bs b o e).2⟩, he.bsz, he.funs, fun b e => by rw [upd_ne (nn (he.frf b e))]; exact he.frf b e, hok, he.bare⟩
    refine codeAny_mono (F.run A outer s (upd H a (.lst [.int i, .int j])) args us vs (fun v H' => ∃ i' j', PotI i' j' ∧ H' a = some (.lst [.int i', .int j']) ∧ Q v (upd H' a (potO a))) E hr he1 hb hv ⟨a, m, i, j, ev, upd_same, p, sm, fun d i' j' H' hR hp kp e' => ⟨i', j', hp, e', q d _ hR fun b o e => ?_⟩⟩) fun r s' hq => ?_
    · by_cases hb : b = a
      · rw [hb, upd_same]; rw [hb, ea] at e; exact e
      · rw [upd_ne hb]; exact kp b o hb (by rw [upd_ne hb]; exact e)
    · cases r with
      | error er => exact hq
      | ok fl =>
        cases fl with
        | ret u =>
          obtain ⟨v, H2, os, bare, un, hok2, rv, i', j', hp, e2, q2⟩ := hq
          refine ⟨v, upd H2 a (potO a), os, bare, ⟨fun b o e n => un.keep b o e (by rw [upd_ne (nn n)]; exact n), fun b o e n => un.slot b o e (by rw [upd_ne (nn n)]; exact n), fun b o e n x => ?_, fun b o e => un.there b o e, fun b xs e => ?_, fun b o u e => ?_, fun b ps e => ?_⟩, pot_close hok2 e2 hp, rv, q2⟩
          · rw [upd_ne (nn n)]; exact un.free b o e (by rw [upd_ne (nn n)]; exact n) x
          · have hba : b ≠ a := fun z => by rw [z, ea] at e; exact potO_tup (Option.some.inj e)
            rw [upd_ne hba]; exact un.tups b xs (by rw [upd_ne hba]; exact e)
          · have hba : b ≠ a := fun z => by rw [z, ea] at e; exact potO_frz (Option.some.inj e)
            rw [upd_ne hba]; exact un.frzs b o u (by rw [upd_ne hba]; exact e)
          · have hba : b ≠ a := fun z => by rw [z, ea] at e; exact potO_tbl (Option.some.inj e)
            rw [upd_ne hba]; exact un.tbls b ps (by rw [upd_ne hba]; exact e)
        | next => exact hq
        | brk => exact hq
        | cont => exact hq
/-- a new pot -/
theorem pot_fnN {A : Type} {args : A → List OT} {pre : A → Prop} {g : A → Int × Int} {k : Nat} {f : Addr} {fd : FuncData} {ps : List Str} (F : FnOk Pg w K mg base CX0 k f fd ps (spP args pre fun a => .l [J (g a).1, J (g a).2])) (hg : ∀ a, pre a → PotI (g a).1 (g a).2) :
    FnOk Pg w K mg base CX0 k f fd ps (spP args pre fun _ => .p pot) where
  len := fun vs H Q E ⟨G, a, sG, r, hp, q⟩ => F.len vs H (fun _ _ => True) E ⟨G, a, sG, r, hp, fun _ _ _ _ _ => True.intro⟩
  run := fun A outer s H args us vs Q E hr he hb hv hs => by
    obtain ⟨G, a, sG, r, hp, q⟩ := hs
    refine codeAny_mono (F.run A outer s H args us vs (fun v H' => ∃ p, v = .ref p ∧ H' p = some (.lst [.int (g a).1, .int (g a).2]) ∧ H p = none ∧ Q v (upd H' p (potO p))) E hr he hb hv ⟨G, a, sG, r, hp, fun v G1 H1 x ow => ?_⟩) fun r s' hq => ?_
    · obtain ⟨fp, ow, nd, z⟩ := ow
      cases ow with
      | @l p ws ts fp e rs =>
        obtain ⟨zp1, zp2⟩ := z p List.mem_cons_self
        cases rs with
        | cons r1 rs =>
          cases rs with
          | cons r2 rs =>
            cases rs
            have e1 := VR_int r1.see
            have e2 := VR_int r2.see
            subst e1 e2
            refine ⟨p, rfl, e, zp1, q _ (upd G1 p (potO p)) _ ⟨fun b o hb => ?_, fun b o hb => ?_, fun b o hb => ?_, fun b o hb => ?_⟩ (OwnR.leaf ⟨p, rfl, upd_same⟩)⟩
            · rw [upd_ne (ne_of_none hb zp1)]; exact x.sH b o hb
            · have := x.sG b o hb
              rw [upd_ne (ne_of_none this zp2)]; exact this
            · by_cases hbp : b = p
              · subst hbp; rw [upd_same] at hb ⊢; exact hb
              · rw [upd_ne hbp] at hb ⊢; exact x.gh b o hb
            · by_cases hbp : b = p
              · subst hbp; exact .inr zp1
              · rw [upd_ne hbp] at hb; exact x.fr b o hb
    · cases r with
      | error er => exact hq
      | ok fl =>
        cases fl with
        | ret u =>
          obtain ⟨v, H2, os, bare, un, hok2, rv, p, ev, ep, n0, q2⟩ := hq
          have nn : ∀ {b : Addr}, H2 b = none → b ≠ p := fun {b} n z => by rw [z, ep] at n; cases n
          refine ⟨v, upd H2 p (potO p), os, bare, ⟨un.keep, un.slot, fun b o e n x => ?_, un.there, fun b xs e => ?_, fun b xs u e => ?_, fun b xs e => ?_⟩, pot_close hok2 ep (hg a hp), rv, q2⟩
          · have := un.free b o e n x
            rw [upd_ne (nn this)]; exact this
          · have := un.tups b xs e
            rw [upd_ne (fun z => by rw [z, ep] at this; cases this)]; exact this
          · have := un.frzs b xs u e
            rw [upd_ne (fun z => by rw [z, ep] at this; cases this)]; exact this
          · obtain ⟨mo, this⟩ := un.tbls b xs e
            exact ⟨mo, by rw [upd_ne (fun z => by rw [z, ep] at this; cases this)]; exact this⟩
        | next => exact hq
        | brk => exact hq
        | cont => exact hq
end
section
variable {K : PySem.W.Frag} {te ta tb tl : TE} {tA : TA} {Δ : List Sl}
/-- a draw -/
theorem de_draw {S : Int → Prop} {R : Int → Int → Prop} {S' : Int → Prop} {E : XK} (h0 : DE ta Δ (.vw (.p pot))) (h1 : DE tb Δ (.vw (.p (sm S')))) (hS : ∀ m, S' m → S m) : DE (tCall (spPot S R) [] E (tCons ta (tCons tb tNil))) Δ (.own (.p (sm fun d : Int => ∃ m, S' m ∧ R m d))) := fun n σ G H Q o q =>
  (da_cons h0 (da_cons h1 da_nil)) n σ G H _ o fun vs G1 H1 e1 r => by
    cases r with
    | cons r1 r =>
      cases r with
      | cons r2 r =>
        cases r
        cases r1 with
        | p r1 =>
          cases r2 with
          | p r2 =>
            obtain ⟨a, rfl, ea⟩ := r1
            obtain ⟨m, hm, r2⟩ := r2
            have e2 := Pv.one _ _ _ r2
            subst e2
            exact ⟨a, m, rfl, e1.gh _ _ ea, hS m hm, fun d H2 hd s2 => q _ G1 H2 (e1.trans ⟨s2, Same.refl _, e1.gh.trans s2, fun _ _ z => .inl z⟩) (OwnR.leaf ⟨d, ⟨m, hm, hd⟩, .int d⟩)⟩
end
end U

set_option Elab.async false
set_option linter.all false
set_option maxRecDepth 100000
set_option maxHeartbeats 4000000
namespace U
open PySem PySem.Spec L2
open En (enc)
/-! ## exceptions as values -/
/-- what the written part says of an exception class whose instances are held as values -/
structure XcC (K : PySem.W.Frag) (C : Addr) : Prop where
  xf : XfC K C
  cl : (PySem.W.clsIn K C).isSome = true
  ca : PySem.W.findIn K (.ref C) "__class__" = some (some (.builtin "object.__class__")) ∧ PySem.W.mroIn K C (.type "object") = some true
abbrev excB : List Value := [.type "ValueError", .type "Exception", .type "BaseException", .type "object"]
def XcG (K : PySem.W.Frag) : Prop := PySem.W.specialIn K (.builtin "object.__class__") "__get__" = some (some (.builtin "getset_descriptor.__get__")) ∧ PySem.W.takesIn K (.builtin "object.__class__") = some true
def exL (C : Addr) (fs : List (Str × PyData)) : Mo := ⟨fun G v => ∃ a d, v = .ref a ∧ G a = some (exo a C d) ∧ ((d = none ∧ fs = []) ∨ ∃ dx vs, d = some dx ∧ G dx = some (exd dx vs) ∧ vs.map (·.1) = fs.map (·.1) ∧ Dqs G (vs.map (·.2)) (fs.map (·.2))),
  fun _ _ _ s ⟨a, d, e, h, k⟩ => ⟨a, d, e, s _ _ h, k.imp id fun ⟨dx, vs, e1, h1, e2, r⟩ => ⟨dx, vs, e1, s _ _ h1, e2, r.mono s⟩⟩⟩
section
variable {X : Cx} {C : Addr} {f : Str} {p pos : Pos} {e : Expr} {es : List Expr} {te : TE} {ta : TA}
/-- isinstance of such a value -/
def rIsX (K : PySem.W.Frag) : List V → Hp → VK → Prop := fun xs H Q => ∃ (a D : Addr) (d : Option Addr) (c : V) (cv : Value) (b : Bool), xs = [.ref a, c] ∧ H a = some (exo a D d) ∧ (∀ dx, d = some dx → ∃ vs, H dx = some (exd dx vs)) ∧ XcC K D ∧ XcG K ∧ ClsV c cv ∧ PySem.W.kitOne K (.ref D) cv = some b ∧ Q (.bl b) H
theorem exo_look {P : Program} {w : World} {H : Hp} {h : Heap} {a D : Addr} {d : Option Addr} (hok : HOk P w H h) (ea : H a = some (exo a D d)) (ed : ∀ dx, d = some dx → ∃ vs, H dx = some (exd dx vs)) : ∃ ox od, PySem.W.InstAt h a ox D od := by
  obtain ⟨t1, ho⟩ := exo_at hok ea
  cases d with
  | none => exact ⟨_, none, ho, rfl, rfl, trivial⟩
  | some dx =>
    obtain ⟨vs, hv⟩ := ed dx rfl
    obtain ⟨mA, hns, _⟩ := exd_at hok hv
    obtain ⟨od, hod, _⟩ := lookIn_ns hns
    exact ⟨_, some od, ho, rfl, rfl, hod⟩
theorem call_isX : CallR X (.builtin "isinstance") (rIsX X.K) := by
  intro pins s σ H xs us Q I r h
  obtain ⟨a, D, d, c, cv, b, rfl, ea, ed, T, Gc, k, e, q⟩ := h
  obtain ⟨u1, u2, rfl, r1, r2⟩ := vals2 r
  have e2 := k.eq r2
  subst e2
  cases (show u1 = Value.ref a from r1)
  obtain ⟨ox, od, J⟩ := exo_look I.hok ea ed
  exact PySem.W.kia_one (PySem.W.kitx_exc T.cl T.xf.ga T.xf.gg T.xf.exC T.ca.1 Gc.1 Gc.2 T.ca.2) I.kIn J e (fun z => nomatch z) fun tk => ⟨.bl b, H, I.tok tk, rfl, q⟩
theorem isXK (K : PySem.W.Frag) (h : X.K = K) : CallR X (.builtin "isinstance") (rIsX K) := h ▸ call_isX
/-- X(), an exception class without own __init__ -/
def tExc0 (C : Addr) : TE := fun σ H Q => ∀ a, H a = none → Q (.ref a) (upd H a (exo a C none))
theorem pe_exc0 {x : Str} {B newId initId : String} {bmB : List Value} (F : ExcBaseFacts B newId initId bmB) (q : PySem.W.excIn X.K C bmB newId = true) (kC : PySem.W.keepIn X.K (.ref C) = true) (hg : Gl X x) (gC : X.mg x = some (.ref C)) (hdb : (x == ("__debug__" : Str)) = false := by decide) :
    PE X (.Call (.Name x p) [] [] pos) (tExc0 C) := by
  refine ⟨fun pins s σ H Q I h => ?_⟩
  refine wpAny_Call_Name_kw (ld_glob I hg gC ?_ hdb)
  refine PySem.W.callWith_K0 I.kIn kC ?_
  show wpAny _ _ (call (.ref C) []) _ _ _
  obtain ⟨bm, N, nm, qn, bs, hdct, sn, sub, ab, col, dd, k0, k1, k2, k3, k5, mN, hC, hN, hni, T⟩ := exc_obj I.kIn q
  refine wpAny_call_exc_subT F T hC hN hni (fun h' a hm => ?_) (by rw [sizeLine_eq]; show 0 ≤ 16777216; omega)
  have hn : H a = none := I.hok.gone hm.new
  obtain ⟨t, ht, _, _⟩ := hm.there
  exact ⟨.ref a, upd H a (exo a C none), I.laidN hm.keeps hm.new hn (exo_ok ht), rfl, h a hn⟩
/-- X(e, ..), X's own __init__ keeping sp: the exception as a value -/
def tMkX (C : Addr) (sp : Sp) (ta : TA) : TE := fun σ H Q => ta σ H fun vs H1 => vs.length ≤ 1000 ∧ ∀ a, H1 a = none → sp (.ref a :: vs) (upd H1 a (exo a C none)) (fun v H2 => v = .non ∧ Q (.ref a) H2) (fun _ _ _ => False)
/-- an own exception object is laid: its heap -/
def laidX (g : Heap) (C : Addr) (us : List Value) : Heap := (g.push (PySem.W.kdv_tup us)).push (PySem.HandSPX.excO C g.objs.size)
theorem laidX_keep {g : Heap} {C : Addr} {us : List Value} (b : Addr) (o : Obj) (e : g.get? b = some o) : (laidX g C us).get? b = some o := by
  unfold laidX
  exact Heap.get?_push_of_some _ (Heap.get?_push_of_some _ e)
theorem laidX_at {g : Heap} {C : Addr} {us : List Value} : (laidX g C us).get? (g.objs.size + 1) = some (PySem.HandSPX.excO C g.objs.size) := by
  unfold laidX
  heap_get
/-- the class is called -/
theorem mkX_run {CX : CXT} {fI : Addr} {k : Nat} {fd : FuncData} {ps : List Str} {sp : Sp} {pins : List (Addr × Obj)} {σ : St} {H : Hp} {s : Shared} {us : List Value} {vs : List V} {Q : VK} (T : OexC X.K C)
    (iC : PySem.W.findIn X.K (.ref C) "__init__" = some (some (.ref fI))) (tI : PySem.W.typeIn X.K (.ref fI) = some (.type "function")) (FI : FnOk X.prog X.w X.K X.mg X.base CX k fI fd ps sp) (room : Room (k + 1) X.A) (hb : Binds X.K fd ps [])
    (hx : Passes CX X (fun _ _ _ => False)) (I : Inv X pins σ H s) (r : Vals vs us) (few : vs.length ≤ 1000) (h : ∀ a, H a = none → sp (.ref a :: vs) (upd H a (exo a C none)) (fun v H2 => v = .non ∧ Q (.ref a) H2) (fun _ _ _ => False)) :
    wpAny (model X.prog X.w) X.A (call (.ref C) us) (EP X pins σ Q) X.xe s := by
  obtain ⟨nm, qn, N, bs, tail, sn, sub, ab, col, dd, k0, k1, k2, k3, k5, cls, ht⟩ := T.cls
  have fewU : us.length ≤ sizeLine := by have := r.length; rw [sizeLine_eq]; omega
  cases s with
  | mk g gens dr tk os =>
    have free := I.hok.fresh (Nat.le_succ g.objs.size)
    have now := h _ free
    have J : Inv X pins σ (upd H (g.objs.size + 1) (exo (g.objs.size + 1) C none)) ⟨laidX g C us, gens, dr, tk, os⟩ := I.laid laidX_keep (Nat.le_succ _) (exo_ok laidX_at)
    have all : Vals (V.ref (g.objs.size + 1) :: vs) (Value.ref (g.objs.size + 1) :: us) := .cons rfl r
    have count : (Value.ref (g.objs.size + 1) :: us).length = ps.length := by rw [← all.length]; exact FI.len _ _ _ _ now
    have bound := hb _ (Value.ref (g.objs.size + 1) :: us) J.kIn (by rw [List.append_nil]; exact count)
    rw [List.append_nil] at bound
    have body := FI.run _ X.stack _ _ ⟨Value.ref (g.objs.size + 1) :: us, []⟩ _ _ _ _ (room.make C us []) (J.env0.make C us []) bound all now
    refine wpAny_call (PySem.HandSPX.call_own PySem.F.excBase_ValueError (fun Y => PySem.HandSPX.refsVE_contains Y tail ht) (I.kIn _ _ cls) (PySem.W.looks_findIn I.kIn iC) (fun self => PySem.W.bind_fn I.kIn self tI) fewU (codeAny_mono body fun out s' w => ?_))
    match out, w with
    | .error er, w => exact hx pins σ _ _ er s' J w
    | .ok (.ret u), w =>
      obtain ⟨v, H2, J2, rv, ev, q⟩ := J.after w
      subst ev
      exact ⟨rv, .ref (g.objs.size + 1), H2, J2, rfl, q⟩
    | .ok .next, w => exact w.elim
    | .ok .brk, w => exact w.elim
    | .ok .cont, w => exact w.elim
theorem pe_mkX {CX : CXT} {x : Str} {fI : Addr} {k : Nat} {fd : FuncData} {ps : List Str} {sp : Sp} (T : OexC X.K C) (iC : PySem.W.findIn X.K (.ref C) "__init__" = some (some (.ref fI))) (tI : PySem.W.typeIn X.K (.ref fI) = some (.type "function"))
    (F1 : FnOk X.prog X.w X.K X.mg X.base CX k fI fd ps sp) (hr : Room (k + 1) X.A) (hb : Binds X.K fd ps []) (hx : Passes CX X (fun _ _ _ => False)) (hg : Gl X x) (hm : X.mg x = some (.ref C)) (ha : PA X (e :: es) ta)
    (hdb : (x == ("__debug__" : Str)) = false := by decide) (he : starEach (e :: es) X.env = (false, eval e X.env) :: starEach es X.env := by rfl) (hpl : (backTo pos (starEach es X.env)).any (·.1) = false := by rfl) :
    PE X (.Call (.Name x p) (e :: es) [] pos) (tMkX C sp ta) :=
  ⟨fun pins s σ H Q I h => wpAny_Call_Name_kw (ld_glob I hg hm (PySem.W.callWith_K (h₀ := X.base) I.ok.mod.kin T.kC (thn (ha.run pos pins s σ H _ I h) fun us s1 ⟨vs, H1, I1, r1, hz, q1⟩ => ⟨I1.kIn, mkX_run T iC tI F1 hr hb hx I1 r1 hz q1⟩) he hpl) hdb)⟩
/-- e.f, e such a value -/
def tXfV (K : PySem.W.Frag) (te : TE) (f : Str) : TE := fun σ H Q => te σ H fun x H1 => ∃ (a C dx : Addr) (fs : List (Str × V)) (v : V), x = .ref a ∧ H1 a = some (exo a C (some dx)) ∧ H1 dx = some (exd dx fs) ∧ XcC K C ∧ PySem.W.findIn K (.ref C) f = some none ∧ fs.lookup f = some v ∧ Q v H1
theorem pe_xfV (he : PE X e te) (hb : attributeBase e f X.env (eval e X.env) = eval e X.env := by rfl) : PE X (.Attribute e f pos) (tXfV X.K te f) := by
  refine ⟨fun pins s σ H Q I h => ?_⟩
  refine attr_of hb (thn (he.run pins s σ H _ I h) fun u s1 hh => ?_)
  obtain ⟨x, H1, I1, rx, a, C, dx, fs, v, ex, ea, ed, T, hno, l, q⟩ := hh
  subst ex
  obtain rfl : u = Value.ref a := rx
  obtain ⟨t1, ho⟩ := exo_at I1.hok ea
  obtain ⟨mA, hns, hr⟩ := exd_at I1.hok ed
  obtain ⟨od, hod, hl⟩ := lookIn_ns hns
  obtain ⟨u, hu, ru⟩ := RelO.some_of (v := v) (o := mA f) (by rw [← l]; exact hr f)
  have J : PySem.W.InstAt s1.heap a _ C (some od) := ⟨ho, rfl, rfl, hod⟩
  exact HandSPX.exc_get I1.kIn J T.xf.ga T.xf.gg T.xf.exC (PySem.W.findObj_own T.xf.hdC hno rfl (by rw [hl, hu])) (handed_of ru) ⟨v, H1, I1.tok _, ru, q⟩
theorem xfK (K : PySem.W.Frag) (h : X.K = K) (he : PE X e te) (hb : attributeBase e f X.env (eval e X.env) = eval e X.env := by rfl) : PE X (.Attribute e f pos) (tXfV K te f) := h ▸ pe_xfV he hb
end
/-! ### the readings -/
section
variable {K : PySem.W.Frag} {te ta tb tl : TE} {tA : TA} {Δ : List Sl} {C : Addr} {fs : List (Str × PyData)} {f : Str} {α : Type} [En α]
theorem de_isX {c : V} {cv : Value} {b : Bool} (h : DE ta Δ (.vw (.p (exL C fs)))) (hc : ∀ σ H Q, tb σ H Q ↔ Q c H) (T : XcC K C) (Gc : XcG K) (k : ClsV c cv) (e : PySem.W.kitOne K (.ref C) cv = some b) : DE (tCB (rIsX K) (tCons ta (tCons tb tNil))) Δ (.own (J b)) := fun n σ G H Q o q =>
  h n σ G H _ o fun v G1 H1 e1 r => (hc _ _ _).mpr (by
    cases r with
    | p r =>
      obtain ⟨a, d, rfl, ea, k2⟩ := r
      refine ⟨a, C, d, c, cv, b, rfl, e1.gh _ _ ea, fun dx hd => ?_, T, Gc, k, e, q _ G1 H1 e1 OwnR_bl⟩
      rcases k2 with k2 | ⟨dx', vs, k2, h3, _⟩
      · rw [k2.1] at hd; cases hd
      · rw [k2] at hd; cases hd
        exact ⟨vs, e1.gh _ _ h3⟩)
theorem exL_new0 {G H : Hp} (s : Same G H) {a : Addr} (hn : H a = none) : Ext G H (upd G a (exo a C none)) (upd H a (exo a C none)) := Ext.newF s hn _
theorem de_exc0 : DE (tExc0 C) Δ (.own (.p (exL C []))) := fun n σ G H Q o q a hn => q _ _ _ (exL_new0 o.sG hn) (OwnR.leaf ⟨a, none, rfl, upd_same, .inl ⟨rfl, rfl⟩⟩)
theorem lookup_kv {vs : List (Str × V)} {fs : List (Str × PyData)} {d : PyData} {G : Hp} : vs.map (·.1) = fs.map (·.1) → Dqs G (vs.map (·.2)) (fs.map (·.2)) → fs.lookup f = some d → ∃ v, vs.lookup f = some v ∧ Dq G v d := by
  induction vs generalizing fs with
  | nil =>
    intro e r h
    cases fs with
    | nil => cases h
    | cons x fs => cases e
  | cons y vs ih =>
    intro e r h
    cases fs with
    | nil => cases e
    | cons x fs =>
      obtain ⟨y1, y2⟩ := y
      obtain ⟨x1, x2⟩ := x
      simp only [List.map_cons, List.cons.injEq] at e
      obtain ⟨rfl, e⟩ := e
      cases r with
      | cons r1 r =>
        simp only [List.lookup] at h ⊢
        cases hc : f == y1 with
        | true =>
          rw [hc] at h
          cases h
          exact ⟨y2, rfl, r1⟩
        | false =>
          rw [hc] at h
          exact ih e r h
theorem de_xf {d : PyData} (h : DE te Δ (.vw (.p (exL C fs)))) (T : XcC K C) (hno : PySem.W.findIn K (.ref C) f = some none) (hl : fs.lookup f = some d) (hf : fs ≠ [] := by simp) : DE (tXfV K te f) Δ (.own (.p (dat d))) := fun n σ G H Q o q =>
  h n σ G H _ o fun v G1 H1 e1 r => by
    cases r with
    | p r =>
      obtain ⟨a, dd, rfl, ea, k2⟩ := r
      rcases k2 with k2 | ⟨dx, vs, rfl, h3, h4, h5⟩
      · exact absurd k2.2 hf
      · obtain ⟨v, hv, hd⟩ := lookup_kv h4 h5 hl
        exact ⟨a, C, dx, vs, v, rfl, e1.gh _ _ ea, e1.gh _ _ h3, T, hno, hv, q _ G1 H1 e1 (OwnR.leaf hd)⟩
end
/-! ### its __init__ -/
def nA (K : PySem.W.Frag) (C : Addr) (f : Str) : Prop := PySem.W.findIn K (.ref C) f = some none
def spX1 (K : PySem.W.Frag) (C : Addr) (f : Str) : Sp := fun vs H Q _ => ∃ a y, vs = [.ref a, y] ∧ OexC K C ∧ nA K C f ∧ H a = some (exo a C none) ∧ ∀ dx, H dx = none → dx ≠ a → Q .non (upd (upd H dx (exd dx [(f, y)])) a (exo a C (some dx)))
def spX2 (K : PySem.W.Frag) (C : Addr) (f g : Str) : Sp := fun vs H Q _ => ∃ a y z, vs = [.ref a, y, z] ∧ OexC K C ∧ nA K C f ∧ nA K C g ∧ H a = some (exo a C none) ∧ ∀ dx, H dx = none → dx ≠ a → Q .non (upd (upd (upd H dx (exd dx [(f, y)])) a (exo a C (some dx))) dx (exd dx [(g, z), (f, y)]))
def spXL (K : PySem.W.Frag) (C : Addr) (f : Str) : Sp := fun vs H Q _ => ∃ a l ys, vs = [.ref a, .ref l] ∧ OexC K C ∧ nA K C f ∧ H a = some (exo a C none) ∧ H l = some (.lst ys) ∧ ∀ p dx, H p = none → p ≠ a → upd H p (.lst ys) dx = none → dx ≠ a → Q .non (upd (upd (upd H p (.lst ys)) dx (exd dx [(f, .ref p)])) a (exo a C (some dx)))
section
variable {K : PySem.W.Frag} {C : Addr} {f g : Str} {vs : List V} {H : Hp} {Q : VK} {E : XK} {N : List Str}
theorem run_X1 (h : spX1 K C f vs H Q E) : tOst K f (tVar 0) (tVar 1) { nx := fun _ H' => Q .non H', rt := Q } (start N vs) H := by
  obtain ⟨a, y, rfl, T, n, ea, q⟩ := h
  exact ⟨y, rfl, _, rfl, a, C, rfl, T, n, .inl ⟨ea, fun dx n ne => q dx n ne⟩⟩
theorem run_X2 (h : spX2 K C f g vs H Q E) : tSeq (tOst K f (tVar 0) (tVar 1)) (tOst K g (tVar 0) (tVar 2)) { nx := fun _ H' => Q .non H', rt := Q } (start N vs) H := by
  obtain ⟨a, y, z, rfl, T, n, n2, ea, q⟩ := h
  exact ⟨y, rfl, _, rfl, a, C, rfl, T, n, .inl ⟨ea, fun dx nx ne => ⟨z, rfl, _, rfl, a, C, rfl, T, n2, .inr ⟨dx, _, upd_same, by rw [upd_ne ne, upd_same], by show 1 ≤ 900; omega, q dx nx ne⟩⟩⟩⟩
theorem run_XL (h : spXL K C f vs H Q E) : tOst K f (tVar 0) (tCB (rListOf K) (tCons (tVar 1) tNil)) { nx := fun _ H' => Q .non H', rt := Q } (start N vs) H := by
  obtain ⟨a, l, ys, rfl, T, n, ea, el, q⟩ := h
  refine ⟨_, rfl, l, ys, rfl, .inl (.of el), fun p hp => ⟨_, rfl, a, C, rfl, T, n, .inl ⟨?_, fun dx nx ne => q p dx hp ?_ nx ne⟩⟩⟩
  · rw [upd_ne (ne_of_none ea hp)]; exact ea
  · exact fun z => by rw [z, ea] at hp; cases hp
end
section
variable {K : PySem.W.Frag} {te ta tb tl : TE} {Δ : List Sl} {C : Addr} {f g : Str} {α β : Type} [En α] [En β]
theorem ext_exo {G H : Hp} {a dx : Addr} {o1 o2 : HO} {W : Hp} (s : Same G H) (na : H a = none) (nd : H dx = none) (ne : dx ≠ a) (h1 : W a = some o2) (h2 : W dx = some o1) (h3 : ∀ b, b ≠ a → b ≠ dx → W b = H b) : ∃ G', Ext G H G' W ∧ G' a = some o2 ∧ G' dx = some o1 := by
  classical
  refine ⟨upd (upd G dx o1) a o2, ⟨fun b o e => ?_, fun b o e => ?_, fun b o e => ?_, fun b o e => ?_⟩, upd_same, by rw [upd_ne ne, upd_same]⟩
  · rw [h3 b (ne_of_none e na) (ne_of_none e nd)]; exact e
  · have := s b o e
    rw [upd_ne (ne_of_none this na), upd_ne (ne_of_none this nd)]; exact e
  · by_cases ha : b = a
    · subst ha; rw [upd_same] at e; rw [h1]; exact e
    · rw [upd_ne ha] at e
      by_cases hd : b = dx
      · subst hd; rw [upd_same] at e; rw [h2]; exact e
      · rw [upd_ne hd] at e; rw [h3 b ha hd]; exact s b o e
  · by_cases ha : b = a
    · subst ha; exact .inr na
    · rw [upd_ne ha] at e
      by_cases hd : b = dx
      · subst hd; exact .inr nd
      · rw [upd_ne hd] at e; exact .inl e
theorem de_X1 {x : α} (T : OexC K C) (n : nA K C f) (h : DE te Δ (.vw (J x))) : DE (tMkX C (spX1 K C f) (tCons te tNil)) Δ (.own (.p (exL C [(f, enc x)]))) := fun nn σ G H Q o q =>
  (da_cons h da_nil) nn σ G H _ o fun vs G1 H1 e1 r => by
    obtain ⟨v, e0, r1⟩ := VRs_one r
    subst e0
    cases r1 with
    | p r1 =>
      refine ⟨by show 1 ≤ 1000; omega, fun a na => ⟨a, v, rfl, T, n, upd_same, fun dx nd ne => ⟨rfl, ?_⟩⟩⟩
      have nd' : H1 dx = none := by rwa [upd_ne ne] at nd
      obtain ⟨G2, e2, g1, g2⟩ := ext_exo (o1 := exd dx [(f, v)]) (o2 := exo a C (some dx)) (W := upd (upd (upd H1 a (exo a C none)) dx (exd dx [(f, v)])) a (exo a C (some dx))) e1.gh na nd' ne upd_same (by rw [upd_ne ne, upd_same]) (fun b h1 h2 => by rw [upd_ne h1, upd_ne h2, upd_ne h1])
      exact q _ G2 _ (e1.trans e2) (OwnR.leaf ⟨a, some dx, rfl, g1, .inr ⟨dx, _, rfl, g2, rfl, .cons (r1.mono e2.sG) .nil⟩⟩)
theorem de_X2 {x : α} {y : β} (T : OexC K C) (n : nA K C f) (n2 : nA K C g) (h : DE te Δ (.vw (J x))) (h' : DE tb Δ (.vw (J y))) : DE (tMkX C (spX2 K C f g) (tCons te (tCons tb tNil))) Δ (.own (.p (exL C [(g, enc y), (f, enc x)]))) := fun nn σ G H Q o q =>
  (da_cons h (da_cons h' da_nil)) nn σ G H _ o fun vs G1 H1 e1 r => by
    cases r with
    | @cons v _ _ _ r1 r =>
      cases r with
      | @cons u _ _ _ r2 r =>
        cases r
        cases r1 with
        | p r1 =>
          cases r2 with
          | p r2 =>
            refine ⟨by show 2 ≤ 1000; omega, fun a na => ⟨a, v, u, rfl, T, n, n2, upd_same, fun dx nd ne => ⟨rfl, ?_⟩⟩⟩
            have nd' : H1 dx = none := by rwa [upd_ne ne] at nd
            obtain ⟨G2, e2, g1, g2⟩ := ext_exo (o1 := exd dx [(g, u), (f, v)]) (o2 := exo a C (some dx)) (W := upd (upd (upd (upd H1 a (exo a C none)) dx (exd dx [(f, v)])) a (exo a C (some dx))) dx (exd dx [(g, u), (f, v)])) e1.gh na nd' ne (by rw [upd_ne (Ne.symm ne), upd_same]) upd_same (fun b h1 h2 => by rw [upd_ne h2, upd_ne h1, upd_ne h2, upd_ne h1])
            exact q _ G2 _ (e1.trans e2) (OwnR.leaf ⟨a, some dx, rfl, g1, .inr ⟨dx, _, rfl, g2, rfl, .cons (r2.mono e2.sG) (.cons (r1.mono e2.sG) .nil)⟩⟩)
theorem de_XL {x : List α} (T : OexC K C) (n : nA K C f) (h : DE te Δ (.vw (JL x))) : DE (tMkX C (spXL K C f) (tCons te tNil)) Δ (.own (.p (exL C [(f, enc x)]))) := fun nn σ G H Q o q =>
  (da_cons h da_nil) nn σ G H _ o fun vs G1 H1 e1 r => by
    obtain ⟨v, e0, r1⟩ := VRs_one r
    subst e0
    cases r1 with
    | @l l ys ts el rs =>
      have hd : Dqs G1 ys (x.map enc) := VRs_J.mp rs
      refine ⟨by show 1 ≤ 1000; omega, fun a na => ⟨a, l, ys, rfl, T, n, upd_same, by rw [upd_ne (ne_of_none el na)]; exact el, fun p dx hp pa nd ne => ⟨rfl, ?_⟩⟩⟩
      have hp' : H1 p = none := by rwa [upd_ne pa] at hp
      have ndp : dx ≠ p := fun z => by rw [z, upd_same] at nd; cases nd
      have nd' : H1 dx = none := by rwa [upd_ne ndp, upd_ne ne] at nd
      have e2 := Ext.newF e1.gh hp' (.lst ys)
      obtain ⟨G2, e3, g1, g2⟩ := ext_exo (G := upd G1 p (.lst ys)) (H := upd H1 p (.lst ys)) (a := a) (dx := dx) (o1 := exd dx [(f, .ref p)]) (o2 := exo a C (some dx)) (W := upd (upd (upd (upd H1 a (exo a C none)) p (.lst ys)) dx (exd dx [(f, .ref p)])) a (exo a C (some dx))) e2.gh (by rw [upd_ne (Ne.symm pa)]; exact na) (by rw [upd_ne ndp]; exact nd') ne upd_same (by rw [upd_ne ne, upd_same]) (fun b h1 h2 => by
        rw [upd_ne h1, upd_ne h2]
        by_cases hb : b = p
        · rw [hb, upd_same, upd_same]
        · rw [upd_ne hb, upd_ne hb, upd_ne h1])
      exact q _ G2 _ ((e1.trans e2).trans e3) (OwnR.leaf ⟨a, some dx, rfl, g1, .inr ⟨dx, _, rfl, g2, rfl, .cons (.lst (e3.sG _ _ upd_same) (hd.mono (e2.sG.trans e3.sG))) .nil⟩⟩)
end
end U

set_option Elab.async false
set_option linter.all false
set_option maxRecDepth 100000
set_option maxHeartbeats 4000000
namespace U
open PySem PySem.Spec L2
open En (enc)
section
variable {K : PySem.W.Frag} {te ta tb tl : TE} {tA : TA} {tt : TT} {t u : TS} {Δ Δ' : List Sl} {P : Pst} {i j : Nat} {r s t1 t2 : OT} {n : Ent} {σ : L2.St} {G H G' H' : Hp} {α β : Type} [En α] [En β] {m m' : Mo} {k : Kd}
/-! ## the script -/
theorem SqL.mono {a : Addr} {xs : List V} (s : Same G H) (h : SqL K G a xs) : SqL K H a xs := h.imp (Rd.mono s) id
def scr (K : PySem.W.Frag) (ns : List Int) : Mo := ⟨fun G v => ∃ a, v = .ref a ∧ SqL K G a (ns.map V.int), fun _ _ _ s ⟨a, e, h⟩ => ⟨a, e, SqL.mono s h⟩⟩
theorem de_lenScr {ns : List Int} (h : DE ta Δ (.vw (.p (scr K ns)))) : DE (tCB (rLenA K) (tCons ta tNil)) Δ (.own (J ns.length)) :=
  de_cb (da_cons h da_nil) fun vs G H Q s r q => by
    obtain ⟨v, e0, r1⟩ := VRs_one r
    subst e0
    cases r1 with
    | p r1 =>
      obtain ⟨a, rfl, h1⟩ := r1
      have q' := q _ G H (Ext.refl s) (OwnR_nat (i := ns.length))
      exact .inl ⟨a, _, rfl, .inl (SqL.mono s h1), by rw [List.length_map]; exact q'⟩
theorem de_ixScr {ns : List Int} {z x : Int} (ha : DE ta Δ (.vw (.p (scr K ns)))) (hb : DE tb Δ (.vw (J z))) (hi : atI ns z = some x) : DE (tOp (rIxA K) ta tb) Δ (.own (J x)) :=
  de_op ha hb fun u v G H Q s r1 r2 q => by
    have e2 := VR_int r2
    subst e2
    cases r1 with
    | p r1 =>
      obtain ⟨a, rfl, h1⟩ := r1
      exact .inl (.inl ⟨a, _, z, .int x, rfl, rfl, SqL.mono s h1, atI_map hi, q _ G H (Ext.refl s) OwnR_int⟩)
/-! ## ints -/
theorem de_c1 {r : List V → Hp → VK → Prop} {i z : Int} (h : DE ta Δ (.vw (J i))) (hr : ∀ H Q, Q (.int z) H → r [.int i] H Q) : DE (tCB r (tCons ta tNil)) Δ (.own (J z)) :=
  de_cb (da_cons h da_nil) fun vs G H Q s r q => by
    obtain ⟨v, e0, r1⟩ := VRs_one r
    subst e0
    rw [VR_int r1]
    exact hr _ _ (q _ G H (Ext.refl s) OwnR_int)
theorem de_c2 {r : List V → Hp → VK → Prop} {i j z : Int} (h : DE ta Δ (.vw (J i))) (h2 : DE tb Δ (.vw (J j))) (hr : ∀ H Q, Q (.int z) H → r [.int i, .int j] H Q) : DE (tCB r (tCons ta (tCons tb tNil))) Δ (.own (J z)) :=
  de_cb (da_cons h (da_cons h2 da_nil)) fun vs G H Q s r q => by
    cases r with
    | cons r1 r =>
      cases r with
      | cons r2 r =>
        cases r
        rw [VR_int r1, VR_int r2]
        exact hr _ _ (q _ G H (Ext.refl s) OwnR_int)
/-- a, b = e, f : leaves -/
theorem ds_par {i j : Nat} (h : DE ta Δ (.own (.p m))) (h2 : DE tb Δ (.own (.p m'))) (hi : i < Δ.length) (hj : j < Δ.length) (hn : P.nx ((Δ.set i (.own (.p m))).set j (.own (.p m')))) : DS (tPar i j (tCons ta (tCons tb tNil))) Δ P := fun nn σ G H D o s =>
  h nn σ G H _ o fun v G1 H1 e1 ⟨f1, w1, _⟩ => h2 nn σ G1 H1 _ (o.ext e1) fun u G2 H2 e2 ⟨f2, w2, _⟩ => by
    cases w1 with
    | p w1 =>
      cases w2 with
      | p w2 =>
        refine ⟨v, u, rfl, s.nx _ _ G2 H2 hn ?_⟩
        have o1 := (o.ext e1).put hi e2 (H := H1) (OwnR.leaf (m.mono _ _ _ e2.sG w1))
        have hj' : j < (Δ.set i (.own (.p m))).length := by simpa using hj
        exact o1.put hj' (Ext.refl e2.gh) (OwnR.leaf w2)
/-! ## some data -/
theorem de_opSm {rr : R2} {S : β → Prop} (ha : DE ta Δ (.vw t1)) (hb : DE tb Δ (.vw (.p (sm S)))) (hr : ∀ y, S y → ∀ x v G H Q, Same G H → VR G H x t1 → VR G H v (J y) → (∀ v G' H', Ext G H G' H' → OwnR G' H' H v r → Q v H') → rr x v H Q) : DE (tOp rr ta tb) Δ (.own r) :=
  de_op ha hb fun u v G H Q s r1 r2 q => by
    cases r2 with
    | p r2 =>
      obtain ⟨y, hy, r2⟩ := r2
      exact hr y hy u v G H Q s r1 (.p r2) q
/-- a list's item by some number -/
theorem de_ixSm {xs : List α} {S : Int → Prop} {S' : α → Prop} (ha : DE ta Δ (.vw (JL xs))) (hb : DE tb Δ (.vw (.p (sm S)))) (hS : ∀ d, S d → ∃ x, atI xs d = some x ∧ S' x) : DE (tOp (rIxA K) ta tb) Δ (.own (.p (sm S'))) :=
  de_opSm ha hb fun y hy u v G H Q s r1 r2 q => by
    obtain ⟨x, hx, hs⟩ := hS y hy
    cases r1 with
    | l h r =>
      have hi := atI_map (f := (J : α → OT)) hx
      unfold atI at hi
      obtain ⟨j, hj, hi⟩ := Option.bind_eq_some_iff.mp hi
      obtain ⟨w, hw, rw'⟩ := r.at hi
      rw [VR_int r2]
      refine .inl (.inl ⟨_, _, _, w, rfl, rfl, .of h, ?_, q w G H (Ext.refl s) (OwnR.leaf ?_)⟩)
      · unfold atI
        rw [r.len, hj]
        exact hw
      · cases rw' with
        | p h => exact ⟨x, hs, h⟩
/-- a loop over range(n), n drawn -/
theorem ds_forSm {g : TG} {S : Int → Prop} (F : TE → TE) (hF : ∀ te σ H Q, F te σ H Q = te σ H fun v H1 => F (tC v) σ H1 Q) (h : DE te Δ (.vw (.p (sm S)))) (k : ∀ x, S x → DS (tFor (iRng1 (tCons (F (tC (.int x))) tNil)) g t) Δ P) : DS (tFor (iRng1 (tCons (F te) tNil)) g t) Δ P :=
  hole_S (F := fun te => tFor (iRng1 (tCons (F te) tNil)) g t) (fun te D σ H => by
    show (F te σ H fun v H1 => _) = te σ H fun v H1 => (F (tC v) σ H1 fun v H1 => _)
    rw [hF]) h k
/-- a list that is kept -/
theorem de_smL {xs : List α} {S : List α → Prop} (h : DE te Δ (.own (JL xs))) (p : S xs) : DE te Δ (.own (.p (sm S))) := de_sm (de_vw (de_freeze h)) p
end
end U

set_option Elab.async false
set_option linter.all false
set_option maxRecDepth 100000
set_option maxHeartbeats 4000000
set_option autoImplicit false
namespace U
open PySem PySem.Spec L2

def topS (i : Nat) : Stmt := PySem.Challenge.pw_unfoldnet_k97_refusals_made.main.body.getD i (.Pass ⟨0, 0, 0, 0⟩)
abbrev s_NoMove_init : Stmt := inClass (topS 4) 0
abbrev N_NoMove_init : List Str := ["self", "at"]
abbrev P_NoMove_init : List Str := ["self", "at"]
theorem sc_NoMove_init : FnScope N_NoMove_init P_NoMove_init (defScope s_NoMove_init) := ⟨rfl, rfl, rfl, by decide +kernel, rfl, by decide +kernel, by decide +kernel⟩
abbrev s_Held_init : Stmt := inClass (topS 5) 0
abbrev N_Held_init : List Str := ["self", "at"]
abbrev P_Held_init : List Str := ["self", "at"]
theorem sc_Held_init : FnScope N_Held_init P_Held_init (defScope s_Held_init) := ⟨rfl, rfl, rfl, by decide +kernel, rfl, by decide +kernel, by decide +kernel⟩
abbrev s_Full_init : Stmt := inClass (topS 6) 0
abbrev N_Full_init : List Str := ["self", "at"]
abbrev P_Full_init : List Str := ["self", "at"]
theorem sc_Full_init : FnScope N_Full_init P_Full_init (defScope s_Full_init) := ⟨rfl, rfl, rfl, by decide +kernel, rfl, by decide +kernel, by decide +kernel⟩
abbrev s_Crowded_init : Stmt := inClass (topS 7) 0
abbrev N_Crowded_init : List Str := ["self", "row"]
abbrev P_Crowded_init : List Str := ["self", "row"]
theorem sc_Crowded_init : FnScope N_Crowded_init P_Crowded_init (defScope s_Crowded_init) := ⟨rfl, rfl, rfl, by decide +kernel, rfl, by decide +kernel, by decide +kernel⟩
abbrev s_Apart_init : Stmt := inClass (topS 10) 0
abbrev N_Apart_init : List Str := ["self", "one", "other"]
abbrev P_Apart_init : List Str := ["self", "one", "other"]
theorem sc_Apart_init : FnScope N_Apart_init P_Apart_init (defScope s_Apart_init) := ⟨rfl, rfl, rfl, by decide +kernel, rfl, by decide +kernel, by decide +kernel⟩
abbrev s_Twice_init : Stmt := inClass (topS 11) 0
abbrev N_Twice_init : List Str := ["self", "number"]
abbrev P_Twice_init : List Str := ["self", "number"]
theorem sc_Twice_init : FnScope N_Twice_init P_Twice_init (defScope s_Twice_init) := ⟨rfl, rfl, rfl, by decide +kernel, rfl, by decide +kernel, by decide +kernel⟩
abbrev s_Clash_init : Stmt := inClass (topS 13) 0
abbrev N_Clash_init : List Str := ["self", "one", "other"]
abbrev P_Clash_init : List Str := ["self", "one", "other"]
theorem sc_Clash_init : FnScope N_Clash_init P_Clash_init (defScope s_Clash_init) := ⟨rfl, rfl, rfl, by decide +kernel, rfl, by decide +kernel, by decide +kernel⟩
abbrev s_law_pot : Stmt := topS 19
abbrev N_law_pot : List Str := ["script", "k", "cell"]
abbrev P_law_pot : List Str := ["script", "k"]
theorem sc_law_pot : FnScope N_law_pot P_law_pot (defScope s_law_pot) := ⟨rfl, rfl, rfl, by decide +kernel, rfl, by decide +kernel, by decide +kernel⟩
abbrev s_law_take : Stmt := topS 20
abbrev N_law_take : List Str := ["pot", "many", "digit"]
abbrev P_law_take : List Str := ["pot", "many"]
theorem sc_law_take : FnScope N_law_take P_law_take (defScope s_law_take) := ⟨rfl, rfl, rfl, by decide +kernel, rfl, by decide +kernel, by decide +kernel⟩
abbrev s_law_number : Stmt := topS 21
abbrev N_law_number : List Str := ["pot"]
abbrev P_law_number : List Str := ["pot"]
theorem sc_law_number : FnScope N_law_number P_law_number (defScope s_law_number) := ⟨rfl, rfl, rfl, by decide +kernel, rfl, by decide +kernel, by decide +kernel⟩
abbrev s_law_row : Stmt := topS 22
abbrev N_law_row : List Str := ["pot", "row", "k", "name", "j"]
abbrev P_law_row : List Str := ["pot"]
theorem sc_law_row : FnScope N_law_row P_law_row (defScope s_law_row) := ⟨rfl, rfl, rfl, by decide +kernel, rfl, by decide +kernel, by decide +kernel⟩
abbrev s_law_kinds : Stmt := topS 23
abbrev N_law_kinds : List Str := ["e", "some", "k"]
abbrev P_law_kinds : List Str := ["e"]
theorem sc_law_kinds : FnScope N_law_kinds P_law_kinds (defScope s_law_kinds) := ⟨rfl, rfl, rfl, by decide +kernel, rfl, by decide +kernel, by decide +kernel⟩
abbrev s_law_bare_right : Stmt := topS 24
abbrev N_law_bare_right : List Str := ["made", "e"]
abbrev P_law_bare_right : List Str := []
theorem sc_law_bare_right : FnScope N_law_bare_right P_law_bare_right (defScope s_law_bare_right) := ⟨rfl, rfl, rfl, by decide +kernel, rfl, by decide +kernel, by decide +kernel⟩
abbrev s_law_right : Stmt := topS 25
abbrev N_law_right : List Str := ["pot", "one", "other", "row", "placed", "paired", "twice", "crowded", "e"]
abbrev P_law_right : List Str := ["pot"]
theorem sc_law_right : FnScope N_law_right P_law_right (defScope s_law_right) := ⟨rfl, rfl, rfl, by decide +kernel, rfl, by decide +kernel, by decide +kernel⟩
abbrev s_law : Stmt := topS 26
abbrev N_law : List Str := ["script", "k"]
abbrev P_law : List Str := ["script"]
theorem sc_law : FnScope N_law P_law (defScope s_law) := ⟨rfl, rfl, rfl, by decide +kernel, rfl, by decide +kernel, by decide +kernel⟩
/-- what the top has written -/
structure Txt (K : PySem.W.Frag) (mg : Str → Option Value) where
  n_ValueError : mg "ValueError" = none
  n_abs : mg "abs" = none
  n_all : mg "all" = none
  n_divmod : mg "divmod" = none
  n_isinstance : mg "isinstance" = none
  n_len : mg "len" = none
  n_list : mg "list" = none
  n_max : mg "max" = none
  n_min : mg "min" = none
  n_range : mg "range" = none
  n_sorted : mg "sorted" = none
  c_NetError : Addr
  c_NoNet : Addr
  c_NoText : Addr
  c_NoMove : Addr
  c_Held : Addr
  c_Full : Addr
  c_Crowded : Addr
  c_NoSpot : Addr
  c_Misfit : Addr
  c_Apart : Addr
  c_Twice : Addr
  c_NoOccurrence : Addr
  c_Clash : Addr
  c_TooMany : Addr
  c_NoPlace : Addr
  c_NoRow : Addr
  c_NoName : Addr
  NoMove_init : Addr
  Held_init : Addr
  Full_init : Addr
  Crowded_init : Addr
  Apart_init : Addr
  Twice_init : Addr
  Clash_init : Addr
  law_pot : Addr
  law_take : Addr
  law_number : Addr
  law_row : Addr
  law_kinds : Addr
  law_bare_right : Addr
  law_right : Addr
  law : Addr
  xg : XcG K
  NoMove_init_d : FuncData
  NoMove_init_F : Fun K "__init__" "NoMove.__init__" s_NoMove_init NoMove_init NoMove_init_d
  NoMove_init_k : PySem.W.keepIn K (.ref NoMove_init) = true
  NoMove_init_b : Binds K NoMove_init_d P_NoMove_init []
  Held_init_d : FuncData
  Held_init_F : Fun K "__init__" "Held.__init__" s_Held_init Held_init Held_init_d
  Held_init_k : PySem.W.keepIn K (.ref Held_init) = true
  Held_init_b : Binds K Held_init_d P_Held_init []
  Full_init_d : FuncData
  Full_init_F : Fun K "__init__" "Full.__init__" s_Full_init Full_init Full_init_d
  Full_init_k : PySem.W.keepIn K (.ref Full_init) = true
  Full_init_b : Binds K Full_init_d P_Full_init []
  Crowded_init_d : FuncData
  Crowded_init_F : Fun K "__init__" "Crowded.__init__" s_Crowded_init Crowded_init Crowded_init_d
  Crowded_init_k : PySem.W.keepIn K (.ref Crowded_init) = true
  Crowded_init_b : Binds K Crowded_init_d P_Crowded_init []
  Apart_init_d : FuncData
  Apart_init_F : Fun K "__init__" "Apart.__init__" s_Apart_init Apart_init Apart_init_d
  Apart_init_k : PySem.W.keepIn K (.ref Apart_init) = true
  Apart_init_b : Binds K Apart_init_d P_Apart_init []
  Twice_init_d : FuncData
  Twice_init_F : Fun K "__init__" "Twice.__init__" s_Twice_init Twice_init Twice_init_d
  Twice_init_k : PySem.W.keepIn K (.ref Twice_init) = true
  Twice_init_b : Binds K Twice_init_d P_Twice_init []
  Clash_init_d : FuncData
  Clash_init_F : Fun K "__init__" "Clash.__init__" s_Clash_init Clash_init Clash_init_d
  Clash_init_k : PySem.W.keepIn K (.ref Clash_init) = true
  Clash_init_b : Binds K Clash_init_d P_Clash_init []
  law_pot_d : FuncData
  law_pot_F : Fun K "_law_pot" "_law_pot" s_law_pot law_pot law_pot_d
  law_pot_k : PySem.W.keepIn K (.ref law_pot) = true
  law_pot_b : Binds K law_pot_d P_law_pot []
  law_pot_g : mg "_law_pot" = some (.ref law_pot)
  law_take_d : FuncData
  law_take_F : Fun K "_law_take" "_law_take" s_law_take law_take law_take_d
  law_take_k : PySem.W.keepIn K (.ref law_take) = true
  law_take_b : Binds K law_take_d P_law_take []
  law_take_g : mg "_law_take" = some (.ref law_take)
  law_number_d : FuncData
  law_number_F : Fun K "_law_number" "_law_number" s_law_number law_number law_number_d
  law_number_k : PySem.W.keepIn K (.ref law_number) = true
  law_number_b : Binds K law_number_d P_law_number []
  law_number_g : mg "_law_number" = some (.ref law_number)
  law_row_d : FuncData
  law_row_F : Fun K "_law_row" "_law_row" s_law_row law_row law_row_d
  law_row_k : PySem.W.keepIn K (.ref law_row) = true
  law_row_b : Binds K law_row_d P_law_row []
  law_row_g : mg "_law_row" = some (.ref law_row)
  law_kinds_d : FuncData
  law_kinds_F : Fun K "_law_kinds" "_law_kinds" s_law_kinds law_kinds law_kinds_d
  law_kinds_k : PySem.W.keepIn K (.ref law_kinds) = true
  law_kinds_b : Binds K law_kinds_d P_law_kinds []
  law_kinds_g : mg "_law_kinds" = some (.ref law_kinds)
  law_bare_right_d : FuncData
  law_bare_right_F : Fun K "_law_bare_right" "_law_bare_right" s_law_bare_right law_bare_right law_bare_right_d
  law_bare_right_k : PySem.W.keepIn K (.ref law_bare_right) = true
  law_bare_right_b : Binds K law_bare_right_d P_law_bare_right []
  law_bare_right_g : mg "_law_bare_right" = some (.ref law_bare_right)
  law_right_d : FuncData
  law_right_F : Fun K "_law_right" "_law_right" s_law_right law_right law_right_d
  law_right_k : PySem.W.keepIn K (.ref law_right) = true
  law_right_b : Binds K law_right_d P_law_right []
  law_right_g : mg "_law_right" = some (.ref law_right)
  law_d : FuncData
  law_F : Fun K "law" "law" s_law law law_d
  law_k : PySem.W.keepIn K (.ref law) = true
  law_b : Binds K law_d P_law []
  law_g : mg "law" = some (.ref law)
  NetError_g : mg "NetError" = some (.ref c_NetError)
  NetError_k : PySem.W.keepIn K (.ref c_NetError) = true
  NetError_x : XcC K c_NetError
  NetError_v : PySem.W.kitOne K (.ref c_NetError) (.type "ValueError") = some true
  NetError_is_NetError : PySem.W.kitOne K (.ref c_NetError) (.ref c_NetError) = some true
  NetError_is_NoNet : PySem.W.kitOne K (.ref c_NetError) (.ref c_NoNet) = some false
  NetError_is_NoText : PySem.W.kitOne K (.ref c_NetError) (.ref c_NoText) = some false
  NetError_is_NoMove : PySem.W.kitOne K (.ref c_NetError) (.ref c_NoMove) = some false
  NetError_is_Held : PySem.W.kitOne K (.ref c_NetError) (.ref c_Held) = some false
  NetError_is_Full : PySem.W.kitOne K (.ref c_NetError) (.ref c_Full) = some false
  NetError_is_Crowded : PySem.W.kitOne K (.ref c_NetError) (.ref c_Crowded) = some false
  NetError_is_NoSpot : PySem.W.kitOne K (.ref c_NetError) (.ref c_NoSpot) = some false
  NetError_is_Misfit : PySem.W.kitOne K (.ref c_NetError) (.ref c_Misfit) = some false
  NetError_is_Apart : PySem.W.kitOne K (.ref c_NetError) (.ref c_Apart) = some false
  NetError_is_Twice : PySem.W.kitOne K (.ref c_NetError) (.ref c_Twice) = some false
  NetError_is_NoOccurrence : PySem.W.kitOne K (.ref c_NetError) (.ref c_NoOccurrence) = some false
  NetError_is_Clash : PySem.W.kitOne K (.ref c_NetError) (.ref c_Clash) = some false
  NetError_is_TooMany : PySem.W.kitOne K (.ref c_NetError) (.ref c_TooMany) = some false
  NetError_is_NoPlace : PySem.W.kitOne K (.ref c_NetError) (.ref c_NoPlace) = some false
  NetError_is_NoRow : PySem.W.kitOne K (.ref c_NetError) (.ref c_NoRow) = some false
  NetError_is_NoName : PySem.W.kitOne K (.ref c_NetError) (.ref c_NoName) = some false
  NetError_q : PySem.W.excIn K c_NetError excB "ValueError.__new__" = true
  NoNet_g : mg "NoNet" = some (.ref c_NoNet)
  NoNet_k : PySem.W.keepIn K (.ref c_NoNet) = true
  NoNet_x : XcC K c_NoNet
  NoNet_v : PySem.W.kitOne K (.ref c_NoNet) (.type "ValueError") = some true
  NoNet_is_NetError : PySem.W.kitOne K (.ref c_NoNet) (.ref c_NetError) = some true
  NoNet_is_NoNet : PySem.W.kitOne K (.ref c_NoNet) (.ref c_NoNet) = some true
  NoNet_is_NoText : PySem.W.kitOne K (.ref c_NoNet) (.ref c_NoText) = some false
  NoNet_is_NoMove : PySem.W.kitOne K (.ref c_NoNet) (.ref c_NoMove) = some false
  NoNet_is_Held : PySem.W.kitOne K (.ref c_NoNet) (.ref c_Held) = some false
  NoNet_is_Full : PySem.W.kitOne K (.ref c_NoNet) (.ref c_Full) = some false
  NoNet_is_Crowded : PySem.W.kitOne K (.ref c_NoNet) (.ref c_Crowded) = some false
  NoNet_is_NoSpot : PySem.W.kitOne K (.ref c_NoNet) (.ref c_NoSpot) = some false
  NoNet_is_Misfit : PySem.W.kitOne K (.ref c_NoNet) (.ref c_Misfit) = some false
  NoNet_is_Apart : PySem.W.kitOne K (.ref c_NoNet) (.ref c_Apart) = some false
  NoNet_is_Twice : PySem.W.kitOne K (.ref c_NoNet) (.ref c_Twice) = some false
  NoNet_is_NoOccurrence : PySem.W.kitOne K (.ref c_NoNet) (.ref c_NoOccurrence) = some false
  NoNet_is_Clash : PySem.W.kitOne K (.ref c_NoNet) (.ref c_Clash) = some false
  NoNet_is_TooMany : PySem.W.kitOne K (.ref c_NoNet) (.ref c_TooMany) = some false
  NoNet_is_NoPlace : PySem.W.kitOne K (.ref c_NoNet) (.ref c_NoPlace) = some false
  NoNet_is_NoRow : PySem.W.kitOne K (.ref c_NoNet) (.ref c_NoRow) = some false
  NoNet_is_NoName : PySem.W.kitOne K (.ref c_NoNet) (.ref c_NoName) = some false
  NoNet_q : PySem.W.excIn K c_NoNet excB "ValueError.__new__" = true
  NoText_g : mg "NoText" = some (.ref c_NoText)
  NoText_k : PySem.W.keepIn K (.ref c_NoText) = true
  NoText_x : XcC K c_NoText
  NoText_v : PySem.W.kitOne K (.ref c_NoText) (.type "ValueError") = some true
  NoText_is_NetError : PySem.W.kitOne K (.ref c_NoText) (.ref c_NetError) = some true
  NoText_is_NoNet : PySem.W.kitOne K (.ref c_NoText) (.ref c_NoNet) = some false
  NoText_is_NoText : PySem.W.kitOne K (.ref c_NoText) (.ref c_NoText) = some true
  NoText_is_NoMove : PySem.W.kitOne K (.ref c_NoText) (.ref c_NoMove) = some false
  NoText_is_Held : PySem.W.kitOne K (.ref c_NoText) (.ref c_Held) = some false
  NoText_is_Full : PySem.W.kitOne K (.ref c_NoText) (.ref c_Full) = some false
  NoText_is_Crowded : PySem.W.kitOne K (.ref c_NoText) (.ref c_Crowded) = some false
  NoText_is_NoSpot : PySem.W.kitOne K (.ref c_NoText) (.ref c_NoSpot) = some false
  NoText_is_Misfit : PySem.W.kitOne K (.ref c_NoText) (.ref c_Misfit) = some false
  NoText_is_Apart : PySem.W.kitOne K (.ref c_NoText) (.ref c_Apart) = some false
  NoText_is_Twice : PySem.W.kitOne K (.ref c_NoText) (.ref c_Twice) = some false
  NoText_is_NoOccurrence : PySem.W.kitOne K (.ref c_NoText) (.ref c_NoOccurrence) = some false
  NoText_is_Clash : PySem.W.kitOne K (.ref c_NoText) (.ref c_Clash) = some false
  NoText_is_TooMany : PySem.W.kitOne K (.ref c_NoText) (.ref c_TooMany) = some false
  NoText_is_NoPlace : PySem.W.kitOne K (.ref c_NoText) (.ref c_NoPlace) = some false
  NoText_is_NoRow : PySem.W.kitOne K (.ref c_NoText) (.ref c_NoRow) = some false
  NoText_is_NoName : PySem.W.kitOne K (.ref c_NoText) (.ref c_NoName) = some false
  NoText_q : PySem.W.excIn K c_NoText excB "ValueError.__new__" = true
  NoMove_g : mg "NoMove" = some (.ref c_NoMove)
  NoMove_k : PySem.W.keepIn K (.ref c_NoMove) = true
  NoMove_x : XcC K c_NoMove
  NoMove_v : PySem.W.kitOne K (.ref c_NoMove) (.type "ValueError") = some true
  NoMove_is_NetError : PySem.W.kitOne K (.ref c_NoMove) (.ref c_NetError) = some true
  NoMove_is_NoNet : PySem.W.kitOne K (.ref c_NoMove) (.ref c_NoNet) = some false
  NoMove_is_NoText : PySem.W.kitOne K (.ref c_NoMove) (.ref c_NoText) = some false
  NoMove_is_NoMove : PySem.W.kitOne K (.ref c_NoMove) (.ref c_NoMove) = some true
  NoMove_is_Held : PySem.W.kitOne K (.ref c_NoMove) (.ref c_Held) = some false
  NoMove_is_Full : PySem.W.kitOne K (.ref c_NoMove) (.ref c_Full) = some false
  NoMove_is_Crowded : PySem.W.kitOne K (.ref c_NoMove) (.ref c_Crowded) = some false
  NoMove_is_NoSpot : PySem.W.kitOne K (.ref c_NoMove) (.ref c_NoSpot) = some false
  NoMove_is_Misfit : PySem.W.kitOne K (.ref c_NoMove) (.ref c_Misfit) = some false
  NoMove_is_Apart : PySem.W.kitOne K (.ref c_NoMove) (.ref c_Apart) = some false
  NoMove_is_Twice : PySem.W.kitOne K (.ref c_NoMove) (.ref c_Twice) = some false
  NoMove_is_NoOccurrence : PySem.W.kitOne K (.ref c_NoMove) (.ref c_NoOccurrence) = some false
  NoMove_is_Clash : PySem.W.kitOne K (.ref c_NoMove) (.ref c_Clash) = some false
  NoMove_is_TooMany : PySem.W.kitOne K (.ref c_NoMove) (.ref c_TooMany) = some false
  NoMove_is_NoPlace : PySem.W.kitOne K (.ref c_NoMove) (.ref c_NoPlace) = some false
  NoMove_is_NoRow : PySem.W.kitOne K (.ref c_NoMove) (.ref c_NoRow) = some false
  NoMove_is_NoName : PySem.W.kitOne K (.ref c_NoMove) (.ref c_NoName) = some false
  NoMove_o : OexC K c_NoMove
  NoMove_i : PySem.W.findIn K (.ref c_NoMove) "__init__" = some (some (.ref NoMove_init))
  NoMove_t : PySem.W.typeIn K (.ref NoMove_init) = some (.type "function")
  NoMove_a_at : nA K c_NoMove "at"
  Held_g : mg "Held" = some (.ref c_Held)
  Held_k : PySem.W.keepIn K (.ref c_Held) = true
  Held_x : XcC K c_Held
  Held_v : PySem.W.kitOne K (.ref c_Held) (.type "ValueError") = some true
  Held_is_NetError : PySem.W.kitOne K (.ref c_Held) (.ref c_NetError) = some true
  Held_is_NoNet : PySem.W.kitOne K (.ref c_Held) (.ref c_NoNet) = some false
  Held_is_NoText : PySem.W.kitOne K (.ref c_Held) (.ref c_NoText) = some false
  Held_is_NoMove : PySem.W.kitOne K (.ref c_Held) (.ref c_NoMove) = some false
  Held_is_Held : PySem.W.kitOne K (.ref c_Held) (.ref c_Held) = some true
  Held_is_Full : PySem.W.kitOne K (.ref c_Held) (.ref c_Full) = some false
  Held_is_Crowded : PySem.W.kitOne K (.ref c_Held) (.ref c_Crowded) = some false
  Held_is_NoSpot : PySem.W.kitOne K (.ref c_Held) (.ref c_NoSpot) = some false
  Held_is_Misfit : PySem.W.kitOne K (.ref c_Held) (.ref c_Misfit) = some false
  Held_is_Apart : PySem.W.kitOne K (.ref c_Held) (.ref c_Apart) = some false
  Held_is_Twice : PySem.W.kitOne K (.ref c_Held) (.ref c_Twice) = some false
  Held_is_NoOccurrence : PySem.W.kitOne K (.ref c_Held) (.ref c_NoOccurrence) = some false
  Held_is_Clash : PySem.W.kitOne K (.ref c_Held) (.ref c_Clash) = some false
  Held_is_TooMany : PySem.W.kitOne K (.ref c_Held) (.ref c_TooMany) = some false
  Held_is_NoPlace : PySem.W.kitOne K (.ref c_Held) (.ref c_NoPlace) = some false
  Held_is_NoRow : PySem.W.kitOne K (.ref c_Held) (.ref c_NoRow) = some false
  Held_is_NoName : PySem.W.kitOne K (.ref c_Held) (.ref c_NoName) = some false
  Held_o : OexC K c_Held
  Held_i : PySem.W.findIn K (.ref c_Held) "__init__" = some (some (.ref Held_init))
  Held_t : PySem.W.typeIn K (.ref Held_init) = some (.type "function")
  Held_a_at : nA K c_Held "at"
  Full_g : mg "Full" = some (.ref c_Full)
  Full_k : PySem.W.keepIn K (.ref c_Full) = true
  Full_x : XcC K c_Full
  Full_v : PySem.W.kitOne K (.ref c_Full) (.type "ValueError") = some true
  Full_is_NetError : PySem.W.kitOne K (.ref c_Full) (.ref c_NetError) = some true
  Full_is_NoNet : PySem.W.kitOne K (.ref c_Full) (.ref c_NoNet) = some false
  Full_is_NoText : PySem.W.kitOne K (.ref c_Full) (.ref c_NoText) = some false
  Full_is_NoMove : PySem.W.kitOne K (.ref c_Full) (.ref c_NoMove) = some false
  Full_is_Held : PySem.W.kitOne K (.ref c_Full) (.ref c_Held) = some false
  Full_is_Full : PySem.W.kitOne K (.ref c_Full) (.ref c_Full) = some true
  Full_is_Crowded : PySem.W.kitOne K (.ref c_Full) (.ref c_Crowded) = some false
  Full_is_NoSpot : PySem.W.kitOne K (.ref c_Full) (.ref c_NoSpot) = some false
  Full_is_Misfit : PySem.W.kitOne K (.ref c_Full) (.ref c_Misfit) = some false
  Full_is_Apart : PySem.W.kitOne K (.ref c_Full) (.ref c_Apart) = some false
  Full_is_Twice : PySem.W.kitOne K (.ref c_Full) (.ref c_Twice) = some false
  Full_is_NoOccurrence : PySem.W.kitOne K (.ref c_Full) (.ref c_NoOccurrence) = some false
  Full_is_Clash : PySem.W.kitOne K (.ref c_Full) (.ref c_Clash) = some false
  Full_is_TooMany : PySem.W.kitOne K (.ref c_Full) (.ref c_TooMany) = some false
  Full_is_NoPlace : PySem.W.kitOne K (.ref c_Full) (.ref c_NoPlace) = some false
  Full_is_NoRow : PySem.W.kitOne K (.ref c_Full) (.ref c_NoRow) = some false
  Full_is_NoName : PySem.W.kitOne K (.ref c_Full) (.ref c_NoName) = some false
  Full_o : OexC K c_Full
  Full_i : PySem.W.findIn K (.ref c_Full) "__init__" = some (some (.ref Full_init))
  Full_t : PySem.W.typeIn K (.ref Full_init) = some (.type "function")
  Full_a_at : nA K c_Full "at"
  Crowded_g : mg "Crowded" = some (.ref c_Crowded)
  Crowded_k : PySem.W.keepIn K (.ref c_Crowded) = true
  Crowded_x : XcC K c_Crowded
  Crowded_v : PySem.W.kitOne K (.ref c_Crowded) (.type "ValueError") = some true
  Crowded_is_NetError : PySem.W.kitOne K (.ref c_Crowded) (.ref c_NetError) = some true
  Crowded_is_NoNet : PySem.W.kitOne K (.ref c_Crowded) (.ref c_NoNet) = some false
  Crowded_is_NoText : PySem.W.kitOne K (.ref c_Crowded) (.ref c_NoText) = some false
  Crowded_is_NoMove : PySem.W.kitOne K (.ref c_Crowded) (.ref c_NoMove) = some false
  Crowded_is_Held : PySem.W.kitOne K (.ref c_Crowded) (.ref c_Held) = some false
  Crowded_is_Full : PySem.W.kitOne K (.ref c_Crowded) (.ref c_Full) = some false
  Crowded_is_Crowded : PySem.W.kitOne K (.ref c_Crowded) (.ref c_Crowded) = some true
  Crowded_is_NoSpot : PySem.W.kitOne K (.ref c_Crowded) (.ref c_NoSpot) = some false
  Crowded_is_Misfit : PySem.W.kitOne K (.ref c_Crowded) (.ref c_Misfit) = some false
  Crowded_is_Apart : PySem.W.kitOne K (.ref c_Crowded) (.ref c_Apart) = some false
  Crowded_is_Twice : PySem.W.kitOne K (.ref c_Crowded) (.ref c_Twice) = some false
  Crowded_is_NoOccurrence : PySem.W.kitOne K (.ref c_Crowded) (.ref c_NoOccurrence) = some false
  Crowded_is_Clash : PySem.W.kitOne K (.ref c_Crowded) (.ref c_Clash) = some false
  Crowded_is_TooMany : PySem.W.kitOne K (.ref c_Crowded) (.ref c_TooMany) = some false
  Crowded_is_NoPlace : PySem.W.kitOne K (.ref c_Crowded) (.ref c_NoPlace) = some false
  Crowded_is_NoRow : PySem.W.kitOne K (.ref c_Crowded) (.ref c_NoRow) = some false
  Crowded_is_NoName : PySem.W.kitOne K (.ref c_Crowded) (.ref c_NoName) = some false
  Crowded_o : OexC K c_Crowded
  Crowded_i : PySem.W.findIn K (.ref c_Crowded) "__init__" = some (some (.ref Crowded_init))
  Crowded_t : PySem.W.typeIn K (.ref Crowded_init) = some (.type "function")
  Crowded_a_row : nA K c_Crowded "row"
  NoSpot_g : mg "NoSpot" = some (.ref c_NoSpot)
  NoSpot_k : PySem.W.keepIn K (.ref c_NoSpot) = true
  NoSpot_x : XcC K c_NoSpot
  NoSpot_v : PySem.W.kitOne K (.ref c_NoSpot) (.type "ValueError") = some true
  NoSpot_is_NetError : PySem.W.kitOne K (.ref c_NoSpot) (.ref c_NetError) = some true
  NoSpot_is_NoNet : PySem.W.kitOne K (.ref c_NoSpot) (.ref c_NoNet) = some false
  NoSpot_is_NoText : PySem.W.kitOne K (.ref c_NoSpot) (.ref c_NoText) = some false
  NoSpot_is_NoMove : PySem.W.kitOne K (.ref c_NoSpot) (.ref c_NoMove) = some false
  NoSpot_is_Held : PySem.W.kitOne K (.ref c_NoSpot) (.ref c_Held) = some false
  NoSpot_is_Full : PySem.W.kitOne K (.ref c_NoSpot) (.ref c_Full) = some false
  NoSpot_is_Crowded : PySem.W.kitOne K (.ref c_NoSpot) (.ref c_Crowded) = some false
  NoSpot_is_NoSpot : PySem.W.kitOne K (.ref c_NoSpot) (.ref c_NoSpot) = some true
  NoSpot_is_Misfit : PySem.W.kitOne K (.ref c_NoSpot) (.ref c_Misfit) = some false
  NoSpot_is_Apart : PySem.W.kitOne K (.ref c_NoSpot) (.ref c_Apart) = some false
  NoSpot_is_Twice : PySem.W.kitOne K (.ref c_NoSpot) (.ref c_Twice) = some false
  NoSpot_is_NoOccurrence : PySem.W.kitOne K (.ref c_NoSpot) (.ref c_NoOccurrence) = some false
  NoSpot_is_Clash : PySem.W.kitOne K (.ref c_NoSpot) (.ref c_Clash) = some false
  NoSpot_is_TooMany : PySem.W.kitOne K (.ref c_NoSpot) (.ref c_TooMany) = some false
  NoSpot_is_NoPlace : PySem.W.kitOne K (.ref c_NoSpot) (.ref c_NoPlace) = some false
  NoSpot_is_NoRow : PySem.W.kitOne K (.ref c_NoSpot) (.ref c_NoRow) = some false
  NoSpot_is_NoName : PySem.W.kitOne K (.ref c_NoSpot) (.ref c_NoName) = some false
  NoSpot_q : PySem.W.excIn K c_NoSpot excB "ValueError.__new__" = true
  Misfit_g : mg "Misfit" = some (.ref c_Misfit)
  Misfit_k : PySem.W.keepIn K (.ref c_Misfit) = true
  Misfit_x : XcC K c_Misfit
  Misfit_v : PySem.W.kitOne K (.ref c_Misfit) (.type "ValueError") = some true
  Misfit_is_NetError : PySem.W.kitOne K (.ref c_Misfit) (.ref c_NetError) = some true
  Misfit_is_NoNet : PySem.W.kitOne K (.ref c_Misfit) (.ref c_NoNet) = some false
  Misfit_is_NoText : PySem.W.kitOne K (.ref c_Misfit) (.ref c_NoText) = some false
  Misfit_is_NoMove : PySem.W.kitOne K (.ref c_Misfit) (.ref c_NoMove) = some false
  Misfit_is_Held : PySem.W.kitOne K (.ref c_Misfit) (.ref c_Held) = some false
  Misfit_is_Full : PySem.W.kitOne K (.ref c_Misfit) (.ref c_Full) = some false
  Misfit_is_Crowded : PySem.W.kitOne K (.ref c_Misfit) (.ref c_Crowded) = some false
  Misfit_is_NoSpot : PySem.W.kitOne K (.ref c_Misfit) (.ref c_NoSpot) = some false
  Misfit_is_Misfit : PySem.W.kitOne K (.ref c_Misfit) (.ref c_Misfit) = some true
  Misfit_is_Apart : PySem.W.kitOne K (.ref c_Misfit) (.ref c_Apart) = some false
  Misfit_is_Twice : PySem.W.kitOne K (.ref c_Misfit) (.ref c_Twice) = some false
  Misfit_is_NoOccurrence : PySem.W.kitOne K (.ref c_Misfit) (.ref c_NoOccurrence) = some false
  Misfit_is_Clash : PySem.W.kitOne K (.ref c_Misfit) (.ref c_Clash) = some false
  Misfit_is_TooMany : PySem.W.kitOne K (.ref c_Misfit) (.ref c_TooMany) = some false
  Misfit_is_NoPlace : PySem.W.kitOne K (.ref c_Misfit) (.ref c_NoPlace) = some false
  Misfit_is_NoRow : PySem.W.kitOne K (.ref c_Misfit) (.ref c_NoRow) = some false
  Misfit_is_NoName : PySem.W.kitOne K (.ref c_Misfit) (.ref c_NoName) = some false
  Misfit_q : PySem.W.excIn K c_Misfit excB "ValueError.__new__" = true
  Apart_g : mg "Apart" = some (.ref c_Apart)
  Apart_k : PySem.W.keepIn K (.ref c_Apart) = true
  Apart_x : XcC K c_Apart
  Apart_v : PySem.W.kitOne K (.ref c_Apart) (.type "ValueError") = some true
  Apart_is_NetError : PySem.W.kitOne K (.ref c_Apart) (.ref c_NetError) = some true
  Apart_is_NoNet : PySem.W.kitOne K (.ref c_Apart) (.ref c_NoNet) = some false
  Apart_is_NoText : PySem.W.kitOne K (.ref c_Apart) (.ref c_NoText) = some false
  Apart_is_NoMove : PySem.W.kitOne K (.ref c_Apart) (.ref c_NoMove) = some false
  Apart_is_Held : PySem.W.kitOne K (.ref c_Apart) (.ref c_Held) = some false
  Apart_is_Full : PySem.W.kitOne K (.ref c_Apart) (.ref c_Full) = some false
  Apart_is_Crowded : PySem.W.kitOne K (.ref c_Apart) (.ref c_Crowded) = some false
  Apart_is_NoSpot : PySem.W.kitOne K (.ref c_Apart) (.ref c_NoSpot) = some false
  Apart_is_Misfit : PySem.W.kitOne K (.ref c_Apart) (.ref c_Misfit) = some false
  Apart_is_Apart : PySem.W.kitOne K (.ref c_Apart) (.ref c_Apart) = some true
  Apart_is_Twice : PySem.W.kitOne K (.ref c_Apart) (.ref c_Twice) = some false
  Apart_is_NoOccurrence : PySem.W.kitOne K (.ref c_Apart) (.ref c_NoOccurrence) = some false
  Apart_is_Clash : PySem.W.kitOne K (.ref c_Apart) (.ref c_Clash) = some false
  Apart_is_TooMany : PySem.W.kitOne K (.ref c_Apart) (.ref c_TooMany) = some false
  Apart_is_NoPlace : PySem.W.kitOne K (.ref c_Apart) (.ref c_NoPlace) = some false
  Apart_is_NoRow : PySem.W.kitOne K (.ref c_Apart) (.ref c_NoRow) = some false
  Apart_is_NoName : PySem.W.kitOne K (.ref c_Apart) (.ref c_NoName) = some false
  Apart_o : OexC K c_Apart
  Apart_i : PySem.W.findIn K (.ref c_Apart) "__init__" = some (some (.ref Apart_init))
  Apart_t : PySem.W.typeIn K (.ref Apart_init) = some (.type "function")
  Apart_a_one : nA K c_Apart "one"
  Apart_a_other : nA K c_Apart "other"
  Twice_g : mg "Twice" = some (.ref c_Twice)
  Twice_k : PySem.W.keepIn K (.ref c_Twice) = true
  Twice_x : XcC K c_Twice
  Twice_v : PySem.W.kitOne K (.ref c_Twice) (.type "ValueError") = some true
  Twice_is_NetError : PySem.W.kitOne K (.ref c_Twice) (.ref c_NetError) = some true
  Twice_is_NoNet : PySem.W.kitOne K (.ref c_Twice) (.ref c_NoNet) = some false
  Twice_is_NoText : PySem.W.kitOne K (.ref c_Twice) (.ref c_NoText) = some false
  Twice_is_NoMove : PySem.W.kitOne K (.ref c_Twice) (.ref c_NoMove) = some false
  Twice_is_Held : PySem.W.kitOne K (.ref c_Twice) (.ref c_Held) = some false
  Twice_is_Full : PySem.W.kitOne K (.ref c_Twice) (.ref c_Full) = some false
  Twice_is_Crowded : PySem.W.kitOne K (.ref c_Twice) (.ref c_Crowded) = some false
  Twice_is_NoSpot : PySem.W.kitOne K (.ref c_Twice) (.ref c_NoSpot) = some false
  Twice_is_Misfit : PySem.W.kitOne K (.ref c_Twice) (.ref c_Misfit) = some false
  Twice_is_Apart : PySem.W.kitOne K (.ref c_Twice) (.ref c_Apart) = some false
  Twice_is_Twice : PySem.W.kitOne K (.ref c_Twice) (.ref c_Twice) = some true
  Twice_is_NoOccurrence : PySem.W.kitOne K (.ref c_Twice) (.ref c_NoOccurrence) = some false
  Twice_is_Clash : PySem.W.kitOne K (.ref c_Twice) (.ref c_Clash) = some false
  Twice_is_TooMany : PySem.W.kitOne K (.ref c_Twice) (.ref c_TooMany) = some false
  Twice_is_NoPlace : PySem.W.kitOne K (.ref c_Twice) (.ref c_NoPlace) = some false
  Twice_is_NoRow : PySem.W.kitOne K (.ref c_Twice) (.ref c_NoRow) = some false
  Twice_is_NoName : PySem.W.kitOne K (.ref c_Twice) (.ref c_NoName) = some false
  Twice_o : OexC K c_Twice
  Twice_i : PySem.W.findIn K (.ref c_Twice) "__init__" = some (some (.ref Twice_init))
  Twice_t : PySem.W.typeIn K (.ref Twice_init) = some (.type "function")
  Twice_a_number : nA K c_Twice "number"
  NoOccurrence_g : mg "NoOccurrence" = some (.ref c_NoOccurrence)
  NoOccurrence_k : PySem.W.keepIn K (.ref c_NoOccurrence) = true
  NoOccurrence_x : XcC K c_NoOccurrence
  NoOccurrence_v : PySem.W.kitOne K (.ref c_NoOccurrence) (.type "ValueError") = some true
  NoOccurrence_is_NetError : PySem.W.kitOne K (.ref c_NoOccurrence) (.ref c_NetError) = some true
  NoOccurrence_is_NoNet : PySem.W.kitOne K (.ref c_NoOccurrence) (.ref c_NoNet) = some false
  NoOccurrence_is_NoText : PySem.W.kitOne K (.ref c_NoOccurrence) (.ref c_NoText) = some false
  NoOccurrence_is_NoMove : PySem.W.kitOne K (.ref c_NoOccurrence) (.ref c_NoMove) = some false
  NoOccurrence_is_Held : PySem.W.kitOne K (.ref c_NoOccurrence) (.ref c_Held) = some false
  NoOccurrence_is_Full : PySem.W.kitOne K (.ref c_NoOccurrence) (.ref c_Full) = some false
  NoOccurrence_is_Crowded : PySem.W.kitOne K (.ref c_NoOccurrence) (.ref c_Crowded) = some false
  NoOccurrence_is_NoSpot : PySem.W.kitOne K (.ref c_NoOccurrence) (.ref c_NoSpot) = some false
  NoOccurrence_is_Misfit : PySem.W.kitOne K (.ref c_NoOccurrence) (.ref c_Misfit) = some false
  NoOccurrence_is_Apart : PySem.W.kitOne K (.ref c_NoOccurrence) (.ref c_Apart) = some false
  NoOccurrence_is_Twice : PySem.W.kitOne K (.ref c_NoOccurrence) (.ref c_Twice) = some false
  NoOccurrence_is_NoOccurrence : PySem.W.kitOne K (.ref c_NoOccurrence) (.ref c_NoOccurrence) = some true
  NoOccurrence_is_Clash : PySem.W.kitOne K (.ref c_NoOccurrence) (.ref c_Clash) = some false
  NoOccurrence_is_TooMany : PySem.W.kitOne K (.ref c_NoOccurrence) (.ref c_TooMany) = some false
  NoOccurrence_is_NoPlace : PySem.W.kitOne K (.ref c_NoOccurrence) (.ref c_NoPlace) = some false
  NoOccurrence_is_NoRow : PySem.W.kitOne K (.ref c_NoOccurrence) (.ref c_NoRow) = some false
  NoOccurrence_is_NoName : PySem.W.kitOne K (.ref c_NoOccurrence) (.ref c_NoName) = some false
  NoOccurrence_q : PySem.W.excIn K c_NoOccurrence excB "ValueError.__new__" = true
  Clash_g : mg "Clash" = some (.ref c_Clash)
  Clash_k : PySem.W.keepIn K (.ref c_Clash) = true
  Clash_x : XcC K c_Clash
  Clash_v : PySem.W.kitOne K (.ref c_Clash) (.type "ValueError") = some true
  Clash_is_NetError : PySem.W.kitOne K (.ref c_Clash) (.ref c_NetError) = some true
  Clash_is_NoNet : PySem.W.kitOne K (.ref c_Clash) (.ref c_NoNet) = some false
  Clash_is_NoText : PySem.W.kitOne K (.ref c_Clash) (.ref c_NoText) = some false
  Clash_is_NoMove : PySem.W.kitOne K (.ref c_Clash) (.ref c_NoMove) = some false
  Clash_is_Held : PySem.W.kitOne K (.ref c_Clash) (.ref c_Held) = some false
  Clash_is_Full : PySem.W.kitOne K (.ref c_Clash) (.ref c_Full) = some false
  Clash_is_Crowded : PySem.W.kitOne K (.ref c_Clash) (.ref c_Crowded) = some false
  Clash_is_NoSpot : PySem.W.kitOne K (.ref c_Clash) (.ref c_NoSpot) = some false
  Clash_is_Misfit : PySem.W.kitOne K (.ref c_Clash) (.ref c_Misfit) = some false
  Clash_is_Apart : PySem.W.kitOne K (.ref c_Clash) (.ref c_Apart) = some false
  Clash_is_Twice : PySem.W.kitOne K (.ref c_Clash) (.ref c_Twice) = some false
  Clash_is_NoOccurrence : PySem.W.kitOne K (.ref c_Clash) (.ref c_NoOccurrence) = some false
  Clash_is_Clash : PySem.W.kitOne K (.ref c_Clash) (.ref c_Clash) = some true
  Clash_is_TooMany : PySem.W.kitOne K (.ref c_Clash) (.ref c_TooMany) = some false
  Clash_is_NoPlace : PySem.W.kitOne K (.ref c_Clash) (.ref c_NoPlace) = some false
  Clash_is_NoRow : PySem.W.kitOne K (.ref c_Clash) (.ref c_NoRow) = some false
  Clash_is_NoName : PySem.W.kitOne K (.ref c_Clash) (.ref c_NoName) = some false
  Clash_o : OexC K c_Clash
  Clash_i : PySem.W.findIn K (.ref c_Clash) "__init__" = some (some (.ref Clash_init))
  Clash_t : PySem.W.typeIn K (.ref Clash_init) = some (.type "function")
  Clash_a_one : nA K c_Clash "one"
  Clash_a_other : nA K c_Clash "other"
  TooMany_g : mg "TooMany" = some (.ref c_TooMany)
  TooMany_k : PySem.W.keepIn K (.ref c_TooMany) = true
  TooMany_x : XcC K c_TooMany
  TooMany_v : PySem.W.kitOne K (.ref c_TooMany) (.type "ValueError") = some true
  TooMany_is_NetError : PySem.W.kitOne K (.ref c_TooMany) (.ref c_NetError) = some true
  TooMany_is_NoNet : PySem.W.kitOne K (.ref c_TooMany) (.ref c_NoNet) = some false
  TooMany_is_NoText : PySem.W.kitOne K (.ref c_TooMany) (.ref c_NoText) = some false
  TooMany_is_NoMove : PySem.W.kitOne K (.ref c_TooMany) (.ref c_NoMove) = some false
  TooMany_is_Held : PySem.W.kitOne K (.ref c_TooMany) (.ref c_Held) = some false
  TooMany_is_Full : PySem.W.kitOne K (.ref c_TooMany) (.ref c_Full) = some false
  TooMany_is_Crowded : PySem.W.kitOne K (.ref c_TooMany) (.ref c_Crowded) = some false
  TooMany_is_NoSpot : PySem.W.kitOne K (.ref c_TooMany) (.ref c_NoSpot) = some false
  TooMany_is_Misfit : PySem.W.kitOne K (.ref c_TooMany) (.ref c_Misfit) = some false
  TooMany_is_Apart : PySem.W.kitOne K (.ref c_TooMany) (.ref c_Apart) = some false
  TooMany_is_Twice : PySem.W.kitOne K (.ref c_TooMany) (.ref c_Twice) = some false
  TooMany_is_NoOccurrence : PySem.W.kitOne K (.ref c_TooMany) (.ref c_NoOccurrence) = some false
  TooMany_is_Clash : PySem.W.kitOne K (.ref c_TooMany) (.ref c_Clash) = some false
  TooMany_is_TooMany : PySem.W.kitOne K (.ref c_TooMany) (.ref c_TooMany) = some true
  TooMany_is_NoPlace : PySem.W.kitOne K (.ref c_TooMany) (.ref c_NoPlace) = some false
  TooMany_is_NoRow : PySem.W.kitOne K (.ref c_TooMany) (.ref c_NoRow) = some false
  TooMany_is_NoName : PySem.W.kitOne K (.ref c_TooMany) (.ref c_NoName) = some false
  TooMany_q : PySem.W.excIn K c_TooMany excB "ValueError.__new__" = true
  NoPlace_g : mg "NoPlace" = some (.ref c_NoPlace)
  NoPlace_k : PySem.W.keepIn K (.ref c_NoPlace) = true
  NoPlace_x : XcC K c_NoPlace
  NoPlace_v : PySem.W.kitOne K (.ref c_NoPlace) (.type "ValueError") = some true
  NoPlace_is_NetError : PySem.W.kitOne K (.ref c_NoPlace) (.ref c_NetError) = some true
  NoPlace_is_NoNet : PySem.W.kitOne K (.ref c_NoPlace) (.ref c_NoNet) = some false
  NoPlace_is_NoText : PySem.W.kitOne K (.ref c_NoPlace) (.ref c_NoText) = some false
  NoPlace_is_NoMove : PySem.W.kitOne K (.ref c_NoPlace) (.ref c_NoMove) = some false
  NoPlace_is_Held : PySem.W.kitOne K (.ref c_NoPlace) (.ref c_Held) = some false
  NoPlace_is_Full : PySem.W.kitOne K (.ref c_NoPlace) (.ref c_Full) = some false
  NoPlace_is_Crowded : PySem.W.kitOne K (.ref c_NoPlace) (.ref c_Crowded) = some false
  NoPlace_is_NoSpot : PySem.W.kitOne K (.ref c_NoPlace) (.ref c_NoSpot) = some false
  NoPlace_is_Misfit : PySem.W.kitOne K (.ref c_NoPlace) (.ref c_Misfit) = some false
  NoPlace_is_Apart : PySem.W.kitOne K (.ref c_NoPlace) (.ref c_Apart) = some false
  NoPlace_is_Twice : PySem.W.kitOne K (.ref c_NoPlace) (.ref c_Twice) = some false
  NoPlace_is_NoOccurrence : PySem.W.kitOne K (.ref c_NoPlace) (.ref c_NoOccurrence) = some false
  NoPlace_is_Clash : PySem.W.kitOne K (.ref c_NoPlace) (.ref c_Clash) = some false
  NoPlace_is_TooMany : PySem.W.kitOne K (.ref c_NoPlace) (.ref c_TooMany) = some false
  NoPlace_is_NoPlace : PySem.W.kitOne K (.ref c_NoPlace) (.ref c_NoPlace) = some true
  NoPlace_is_NoRow : PySem.W.kitOne K (.ref c_NoPlace) (.ref c_NoRow) = some false
  NoPlace_is_NoName : PySem.W.kitOne K (.ref c_NoPlace) (.ref c_NoName) = some false
  NoPlace_q : PySem.W.excIn K c_NoPlace excB "ValueError.__new__" = true
  NoRow_g : mg "NoRow" = some (.ref c_NoRow)
  NoRow_k : PySem.W.keepIn K (.ref c_NoRow) = true
  NoRow_x : XcC K c_NoRow
  NoRow_v : PySem.W.kitOne K (.ref c_NoRow) (.type "ValueError") = some true
  NoRow_is_NetError : PySem.W.kitOne K (.ref c_NoRow) (.ref c_NetError) = some true
  NoRow_is_NoNet : PySem.W.kitOne K (.ref c_NoRow) (.ref c_NoNet) = some false
  NoRow_is_NoText : PySem.W.kitOne K (.ref c_NoRow) (.ref c_NoText) = some false
  NoRow_is_NoMove : PySem.W.kitOne K (.ref c_NoRow) (.ref c_NoMove) = some false
  NoRow_is_Held : PySem.W.kitOne K (.ref c_NoRow) (.ref c_Held) = some false
  NoRow_is_Full : PySem.W.kitOne K (.ref c_NoRow) (.ref c_Full) = some false
  NoRow_is_Crowded : PySem.W.kitOne K (.ref c_NoRow) (.ref c_Crowded) = some false
  NoRow_is_NoSpot : PySem.W.kitOne K (.ref c_NoRow) (.ref c_NoSpot) = some false
  NoRow_is_Misfit : PySem.W.kitOne K (.ref c_NoRow) (.ref c_Misfit) = some false
  NoRow_is_Apart : PySem.W.kitOne K (.ref c_NoRow) (.ref c_Apart) = some false
  NoRow_is_Twice : PySem.W.kitOne K (.ref c_NoRow) (.ref c_Twice) = some false
  NoRow_is_NoOccurrence : PySem.W.kitOne K (.ref c_NoRow) (.ref c_NoOccurrence) = some false
  NoRow_is_Clash : PySem.W.kitOne K (.ref c_NoRow) (.ref c_Clash) = some false
  NoRow_is_TooMany : PySem.W.kitOne K (.ref c_NoRow) (.ref c_TooMany) = some false
  NoRow_is_NoPlace : PySem.W.kitOne K (.ref c_NoRow) (.ref c_NoPlace) = some false
  NoRow_is_NoRow : PySem.W.kitOne K (.ref c_NoRow) (.ref c_NoRow) = some true
  NoRow_is_NoName : PySem.W.kitOne K (.ref c_NoRow) (.ref c_NoName) = some false
  NoRow_q : PySem.W.excIn K c_NoRow excB "ValueError.__new__" = true
  NoName_g : mg "NoName" = some (.ref c_NoName)
  NoName_k : PySem.W.keepIn K (.ref c_NoName) = true
  NoName_x : XcC K c_NoName
  NoName_v : PySem.W.kitOne K (.ref c_NoName) (.type "ValueError") = some true
  NoName_is_NetError : PySem.W.kitOne K (.ref c_NoName) (.ref c_NetError) = some true
  NoName_is_NoNet : PySem.W.kitOne K (.ref c_NoName) (.ref c_NoNet) = some false
  NoName_is_NoText : PySem.W.kitOne K (.ref c_NoName) (.ref c_NoText) = some false
  NoName_is_NoMove : PySem.W.kitOne K (.ref c_NoName) (.ref c_NoMove) = some false
  NoName_is_Held : PySem.W.kitOne K (.ref c_NoName) (.ref c_Held) = some false
  NoName_is_Full : PySem.W.kitOne K (.ref c_NoName) (.ref c_Full) = some false
  NoName_is_Crowded : PySem.W.kitOne K (.ref c_NoName) (.ref c_Crowded) = some false
  NoName_is_NoSpot : PySem.W.kitOne K (.ref c_NoName) (.ref c_NoSpot) = some false
  NoName_is_Misfit : PySem.W.kitOne K (.ref c_NoName) (.ref c_Misfit) = some false
  NoName_is_Apart : PySem.W.kitOne K (.ref c_NoName) (.ref c_Apart) = some false
  NoName_is_Twice : PySem.W.kitOne K (.ref c_NoName) (.ref c_Twice) = some false
  NoName_is_NoOccurrence : PySem.W.kitOne K (.ref c_NoName) (.ref c_NoOccurrence) = some false
  NoName_is_Clash : PySem.W.kitOne K (.ref c_NoName) (.ref c_Clash) = some false
  NoName_is_TooMany : PySem.W.kitOne K (.ref c_NoName) (.ref c_TooMany) = some false
  NoName_is_NoPlace : PySem.W.kitOne K (.ref c_NoName) (.ref c_NoPlace) = some false
  NoName_is_NoRow : PySem.W.kitOne K (.ref c_NoName) (.ref c_NoRow) = some false
  NoName_is_NoName : PySem.W.kitOne K (.ref c_NoName) (.ref c_NoName) = some true
  NoName_q : PySem.W.excIn K c_NoName excB "ValueError.__new__" = true
end U

set_option Elab.async false
set_option linter.all false
set_option maxRecDepth 100000
set_option maxHeartbeats 4000000
namespace U
open PySem PySem.Spec L2
open En (enc)
section
variable {Pg : Program} {w : World} {K : PySem.W.Frag} {mg : Str → Option Value} {base : Heap}
/-! ### drawing -/
theorem ixL {H : Hp} {a : Addr} {xs : List V} {k : Int} {v : V} {Q : VK} (h : H a = some (.lst xs)) (hk : atI xs k = some v) (q : Q v H) : rIxA K (.ref a) (.int k) H Q := .inl (.inl ⟨_, _, _, v, rfl, rfl, .of h, hk, q⟩)
theorem ite_tt {D : L2.Ends} {b : Bool} {t u : TS} {σ : L2.St} {H : Hp} (h1 : b = true → t D σ H) (h2 : b = false → u D σ H) : if b = true then t D σ H else u D σ H := by
  cases b with
  | true => rw [if_pos rfl]; exact h1 rfl
  | false => rw [if_neg Bool.false_ne_true]; exact h2 rfl
def takeS (m : Int) : Prop := 0 < m ∧ m ≤ 10 ^ 60
def takeR (m d : Int) : Prop := 0 ≤ d ∧ d < m
theorem ok_law_take (T : Txt K mg) : FnOk Pg w K mg base CX0 1 T.law_take T.law_take_d P_law_take (spPot takeS takeR) := by
  refine pot_fn (T.law_take_F.ok sc_law_take (fun vs H Q E ⟨a, m, i, j, e, _⟩ => by rw [e]; rfl) (fun cdv A outer s H vs Q E hr h => ?_))
  have hu64 := u64 hr
  have hu65 := u65 hr
  have hu1 := u1 hr
  have nd := sc_law_take.nd
  refine ⟨_, (pss_cons (ps_if (pt_cmpR op_gt (pe_ix (ixK K rfl hu1) (pv 0) pe_int (fun _ _ => rfl)) pe_int (nomark _))
 (pss_cons (ps_asg (pe_callB call_divmodW (by rfl) T.n_divmod (by decide +kernel) (pa_cons (pe_ix (ixK K rfl hu1) (pv 0) pe_int (fun _ _ => rfl)) (pa_cons (pv 1) pa_nil))) (gtupK K rfl rfl (pgs_cons (pg_sub (pv 0) pe_int (set_any hu1)) (pgs_cons (pg_name (i := 2) nd rfl (Or.inl rfl)) pgs_nil))))
 (pss_one (ps_ret (pv 2))))
 pss_nil)
 (pss_cons (ps_asg (pe_op op_mod (pe_op (addK K rfl) (pe_op op_mulA (pe_ix (ixK K rfl hu1) (pv 0) pe_int (fun _ _ => rfl)) pe_int) pe_int) pe_int) (pg_sub (pv 0) pe_int (set_any hu1)))
 (pss_one (ps_ret (pe_op op_mod (pe_op op_fdiv (pe_op op_mod (pe_op op_mulA (pe_ix (ixK K rfl hu1) (pv 0) pe_int (fun _ _ => rfl)) (pe_ix (ixK K rfl hu1) (pv 0) pe_int (fun _ _ => rfl))) pe_int) pe_int) (pv 1)))))), ?_⟩
  obtain ⟨a, m, i, j, rfl, ea, ⟨hp1, hp2⟩, ⟨m0, m1⟩, q⟩ := h
  refine ⟨_, rfl, ixL ea rfl ⟨i, 0, rfl, rfl, ?_⟩⟩
  refine ⟨decide (0 < i), rfl, ite_tt (fun hi => ?_) (fun hi => ?_)⟩
  · refine ⟨_, rfl, ixL ea rfl ⟨.int m, rfl, i, m, rfl, ⟨m0, ?_⟩, fun p hpn => ?_⟩⟩
    · show (decide ((if m == 0 then 0 else m.natAbs.log2 / 30 + 1) > 300) && _) = false
      have : m.natAbs.log2 < 200 := by
        rw [Nat.log2_lt (by omega)]
        have : m.natAbs ≤ 10 ^ 60 := by omega
        exact Nat.lt_of_le_of_lt this (by decide)
      rw [if_neg (by simpa using (show m ≠ 0 by omega))]
      rw [show decide (m.natAbs.log2 / 30 + 1 > 300) = false from decide_eq_false (by omega)]
      rfl
    · have ea' : upd H p (.tup [.int (i / m), .int (i % m)]) a = some (.lst [.int i, .int j]) := by rw [upd_ne (ne_of_none ea hpn)]; exact ea
      refine ⟨p, _, rfl, .of upd_same, rfl, _, _, rfl, ⟨_, rfl, .inl ⟨a, _, 0, 0, rfl, rfl, ea', rfl, ⟨_, _, rfl, rfl, _, rfl, ?_⟩⟩⟩⟩
      refine q (i % m) (i / m) j _ ⟨Int.emod_nonneg _ (by omega), Int.emod_lt_of_pos _ m0⟩ ⟨hp1, hp2⟩ (fun b o hb e => ?_) upd_same
      rw [upd_ne hb, upd_ne (ne_of_none e hpn)]; exact e
  · have hj0 : 0 ≤ (j * 48271 + 16381) % 2147483647 := Int.emod_nonneg _ (by omega)
    have hj1 : (j * 48271 + 16381) % 2147483647 < 2147483647 := Int.emod_lt_of_pos _ (by omega)
    refine ⟨_, rfl, ixL (k := 1) (v := .int j) ea rfl (.inl ⟨j, 48271, rfl, rfl, .inr ⟨by omega, by omega⟩, .inl ⟨_, _, rfl, rfl, _, _, rfl, rfl, by show (0 : Int) < 2147483647; omega, _, rfl, .inl ⟨a, _, 1, 1, rfl, rfl, ea, rfl, ?_⟩⟩⟩)⟩
    have e1 : upd H a (.lst ([V.int i, V.int j].set 1 (.int ((j * 48271 + 16381) % 2147483647)))) a = some (.lst [.int i, .int ((j * 48271 + 16381) % 2147483647)]) := upd_same
    refine ⟨_, rfl, ixL (k := 1) (v := .int ((j * 48271 + 16381) % 2147483647)) e1 rfl ⟨_, rfl, ixL (k := 1) (v := .int ((j * 48271 + 16381) % 2147483647)) e1 rfl (.inl ⟨((j * 48271 + 16381) % 2147483647), ((j * 48271 + 16381) % 2147483647), rfl, rfl, .inl ⟨by omega, by omega⟩, _, _, rfl, rfl, by show (0 : Int) < 2147483629; omega, _, _, rfl, rfl, ⟨by omega, by omega⟩, _, rfl, _, m, rfl, rfl, m0, ?_⟩)⟩⟩
    exact q _ i ((j * 48271 + 16381) % 2147483647) _ ⟨Int.emod_nonneg _ (by omega), Int.emod_lt_of_pos _ m0⟩ ⟨by omega, by omega⟩ (fun b o hb e => by rw [upd_ne hb]; exact e) upd_same
/-- a new pot -/
def cellA (ns : List Int) (k : Nat) : Int := ns.getD k 0
def ab (c : Int) : Int := if c < 0 then -c else c
def potG (a : List Int × Nat) : Int × Int := (if ab (cellA a.1 a.2) - 10 ^ 18 > 0 then ab (cellA a.1 a.2) - 10 ^ 18 else 0, ab (cellA a.1 a.2) % 2147483629 + 613 * (a.2 : Int) + 1)
abbrev A_law_pot : Type := List Int × Nat
abbrev sp_law_pot (K : PySem.W.Frag) : Sp := spP (A := A_law_pot) (fun a => [.p (scr K a.1), J a.2]) (fun a => a.2 ≤ 63) fun _ => .p pot
theorem ok_law_pot (T : Txt K mg) : FnOk Pg w K mg base CX0 1 T.law_pot T.law_pot_d P_law_pot (sp_law_pot K) := by
  refine pot_fnN (g := potG) (Fun.pure T.law_pot_F sc_law_pot (fun _ => rfl) (fun cdv A outer s H E hr => ?_)) (fun a ha => ?_)
  · have hu64 := u64 hr
    have hu65 := u65 hr
    have hu1 := u1 hr
    have nd := sc_law_pot.nd
    refine ⟨_, (pss_cons (ps_set (i := 2) nd rfl (Or.inl rfl) pe_int)
 (pss_cons (ps_if (pt_cmpR op_lt (pv 1) (pe_callB (lenK K rfl) (by rfl) T.n_len (by decide +kernel) (pa_cons (pv 0) pa_nil)) (nomark _))
 (pss_one (ps_set (i := 2) nd rfl (Or.inl rfl) (pe_ix (ixK K rfl hu1) (pv 0) (pv 1) (fun _ _ => rfl))))
 pss_nil)
 (pss_one (ps_ret (pe_lst (pa_cons (pe_callB (call_max2 rfl) (by rfl) T.n_max (by decide +kernel) (pa_cons pe_int (pa_cons (pe_op op_sub (pe_callB call_abs (by rfl) T.n_abs (by decide +kernel) (pa_cons (pv 2) pa_nil)) (pe_op op_pow pe_int pe_int)) pa_nil))) (pa_cons (pe_op (addK K rfl) (pe_op (addK K rfl) (pe_op op_mod (pe_callB call_abs (by rfl) T.n_abs (by decide +kernel) (pa_cons (pv 2) pa_nil)) pe_int) (pe_op op_mulA pe_int (pv 1))) pe_int) pa_nil))))))), fun a hp => ?_⟩
    obtain ⟨ns, kk⟩ := a
    refine ds_l de_int ?_
    refine ds_then (Δ₁ := [.vw (.p (scr K ns)), .vw (J kk), .own (J (cellA ns kk))]) (ds_if (b := decide (kk < ns.length)) (dt_of (de_vw (de_I0b (i := (kk : Int)) (j := (ns.length : Int)) (de_vw (de_varVL rfl)) (de_vw (de_lenScr (de_vw (de_varVL rfl)))) (by simp)))) (fun h => ds_s (de_ixScr (z := (kk : Int)) (x := cellA ns kk) (de_vw (de_varVL rfl)) (de_vw (de_varVL rfl)) ?_) rfl) (fun h => ds_nx ?_)) ?_
    · have h' : kk < ns.length := of_decide_eq_true h
      have e : ixN ns.length (kk : Int) = some kk := by
        unfold ixN
        simp [h']
      unfold atI
      rw [e]
      simp [cellA, h']
    · have h' : ¬ kk < ns.length := of_decide_eq_false h
      have e : cellA ns kk = 0 := by simp [cellA, List.getD, List.getElem?_eq_none (Nat.le_of_not_lt h')]
      rw [e]; rfl
    · have f2 : DE (tVar 2) [.vw (.p (scr K ns)), .vw (J kk), .own (J (cellA ns kk))] (.vw (J (cellA ns kk))) := de_var rfl
      have fa := de_c1 (z := ab (cellA ns kk)) (r := fun xs H Q => ∃ i, xs = [.int i] ∧ Q (.int (if i < 0 then -i else i)) H) f2 fun H Q q => ⟨_, rfl, q⟩
      refine ds_ret (de_lst (dao_cons (de_c2 (de_vw de_int) (de_vw (de_I0 (de_vw fa) (de_vw (de_I (z := 10 ^ 18) (de_vw de_int) (de_vw de_int) ⟨by omega, by omega, by decide⟩ rfl)) rfl)) fun H Q q => ⟨_, _, rfl, q⟩) (dao_cons (de_addI (de_vw (de_addI (de_vw (de_I (de_vw fa) (de_vw de_int) (by show (0 : Int) < 2147483629; omega) rfl)) (de_vw (de_mulI (de_vw de_int) (de_vw (de_varVL rfl)) (.inl ⟨by omega, by omega⟩))))) (de_vw de_int)) dao_nil)) (by rw [sizeLine_eq]; show 2 ≤ 16777216; omega)) rfl
  · have h0 : 0 ≤ ab (cellA a.1 a.2) % 2147483629 := Int.emod_nonneg _ (by omega)
    have h1 : ab (cellA a.1 a.2) % 2147483629 < 2147483629 := Int.emod_lt_of_pos _ (by omega)
    unfold PotI potG
    have ha' : a.2 ≤ 63 := ha
    simp only
    omega
/-- a drawn number -/
abbrev sp_law_number : Sp := spP (A := Unit) (fun _ => [.p pot]) (fun _ => True) fun _ => .p (sm fun _ : Int => True)
theorem ok_law_number (T : Txt K mg) : FnOk Pg w K mg base CX0 2 T.law_number T.law_number_d P_law_number sp_law_number := by
  have G_law_take := ok_law_take (Pg := Pg) (w := w) (base := base) T
  refine Fun.pure T.law_number_F sc_law_number (fun _ => rfl) (fun cdv A outer s H E hr => ?_)
  have hu64 := u64 hr
  have hu65 := u65 hr
  have hu1 := u1 hr
  have nd := sc_law_number.nd
  refine ⟨_, (pss_one (ps_ret (pe_call G_law_take (hr.mono (by decide)) (by rfl) T.law_take_g T.law_take_k T.law_take_b .nil pass0 (pa_cons (pv 0) (pa_cons (pe_ix (ixK K rfl hu1) (pe_lst (pa_cons pe_int (pa_cons (pe_op op_pow pe_int pe_int) pa_nil))) (pe_call G_law_take (hr.mono (by decide)) (by rfl) T.law_take_g T.law_take_k T.law_take_b .nil pass0 (pa_cons (pv 0) (pa_cons pe_int pa_nil))) (fun _ _ => rfl)) pa_nil))))), fun a hp => ?_⟩
  have f0 : DE (tVar 0) [.vw (.p pot)] (.vw (.p pot)) := de_vw (de_varVL rfl)
  refine ds_ret (de_smi (de_vw (de_draw f0 (de_vw (de_ixSm (S' := takeS) (xs := [60, 10 ^ 60]) (de_vw (de_lst (dao_cons de_int (dao_cons (de_I (z := 10 ^ 60) (de_vw de_int) (de_vw de_int) ⟨by omega, by omega, by decide⟩ rfl) dao_nil)))) (de_vw (de_draw f0 (de_vw (de_sm (S := fun m => m = 2) (de_vw de_int) rfl)) fun m h => by subst h; exact ⟨by omega, by omega⟩)) ?_)) fun m h => h)) fun _ _ => True.intro) rfl
  rintro d ⟨m, rfl, h0, h1⟩
  have : d = 0 ∨ d = 1 := by omega
  rcases this with rfl | rfl
  · exact ⟨60, rfl, by omega, by omega⟩
  · exact ⟨10 ^ 60, rfl, by omega, by omega⟩
end
end U

set_option Elab.async false
set_option linter.all false
set_option maxRecDepth 100000
set_option maxHeartbeats 4000000
namespace U
open PySem PySem.Spec L2
open En (enc)
section
variable {Pg : Program} {w : World} {K : PySem.W.Frag} {mg : Str → Option Value} {base : Heap}
/-! ### a row of names -/
abbrev lettersS : Str := "abcdefghijklmnopqrstuvwxyz"
theorem letters_at : ∀ n : Nat, n < 26 → (atI lettersS.cps.toList (n : Int)).any (· < 0x110000) = true := by decide +kernel
theorem strOk_app {a b : Str} (h : PyData.strOk a = true) (h2 : PyData.strOk b = true) : PyData.strOk (a ++ b) = true := by
  show (a.cps ++ b.cps).all _ = true
  rw [Array.all_append]
  exact Bool.and_eq_true_iff.mpr ⟨h, h2⟩
theorem JL_snoc {α : Type} [En α] {xs : List α} {z : α} : OT.l (xs.map J ++ [J z]) = JL (xs ++ [z]) := by simp [JL]
def nmE : Nm := ⟨"", by decide +kernel⟩
abbrev sp_law_row : Sp := spP (A := Unit) (fun _ => [.p pot]) (fun _ => True) fun _ => .p (sm fun _ : List Nm => True)
theorem ok_law_row (T : Txt K mg) : FnOk Pg w K mg base CX0 2 T.law_row T.law_row_d P_law_row sp_law_row := by
  have G_law_take := ok_law_take (Pg := Pg) (w := w) (base := base) T
  refine Fun.pure T.law_row_F sc_law_row (fun _ => rfl) (fun cdv A outer s H E hr => ?_)
  have hu64 := u64 hr
  have hu65 := u65 hr
  have hu1 := u1 hr
  have nd := sc_law_row.nd
  refine ⟨_, (pss_cons (ps_set (i := 1) nd rfl (Or.inl rfl) (pe_lst pa_nil))
 (pss_cons (ps_for PassesOwn.never rfl (pi_range1 (by rfl) T.n_range (pa_cons (pe_call G_law_take (hr.mono (by decide)) (by rfl) T.law_take_g T.law_take_k T.law_take_b .nil pass0 (pa_cons (pv 0) (pa_cons pe_int pa_nil))) pa_nil)) (pg_name (i := 2) nd rfl (Or.inl rfl))
 (pss_cons (ps_set (i := 3) nd rfl (Or.inl rfl) pe_str)
 (pss_cons (ps_for PassesOwn.never rfl (pi_range1 (by rfl) T.n_range (pa_cons (pe_op (addK K rfl) pe_int (pe_call G_law_take (hr.mono (by decide)) (by rfl) T.law_take_g T.law_take_k T.law_take_b .nil pass0 (pa_cons (pv 0) (pa_cons pe_int pa_nil)))) pa_nil)) (pg_name (i := 4) nd rfl (Or.inl rfl))
 (pss_one (ps_set (i := 3) nd rfl (Or.inl rfl) (pe_op (addK K rfl) (pv 3) (pe_ix (ixK K rfl hu1) pe_str (pe_call G_law_take (hr.mono (by decide)) (by rfl) T.law_take_g T.law_take_k T.law_take_b .nil pass0 (pa_cons (pv 0) (pa_cons pe_int pa_nil))) (fun _ _ => rfl))))))
 (pss_one (ps_expr (bmK K rfl PySem.F.plainAttrs_list PySem.F.slot_list_append PySem.F.type_list_append mt_append (pv 1) (pa_cons (pv 3) pa_nil)))))))
 (pss_one (ps_ret (pv 1))))), fun a hp => ?_⟩
  have hsz := sizeLine_eq
  have tk : ∀ {Δ : List Sl} {E : XK} (m : Int), takeS m → Δ[0]? = some (.vw (.p pot)) → DE (tCall (spPot takeS takeR) [] E (tCons (tVar 0) (tCons (tC (.int m)) tNil))) Δ (.own (.p (sm fun d : Int => takeR m d))) := fun {Δ E} m hm h0 =>
    de_smi (de_vw (de_draw (S' := fun x => x = m) (de_vw (de_varVL h0)) (de_vw (de_sm (de_vw de_int) rfl)) fun x hx => by rw [hx]; exact hm)) fun d ⟨x, hx, hd⟩ => by rw [← hx]; exact hd
  refine ds_l (de_lst dao_nil) ?_
  refine ds_seq (M := fun Δ => ∃ (xs : List Nm) (s2 s3 s4 : Sl), Δ = [.vw (.p pot), .own (JL xs), s2, s3, s4]) (ds_forSm (S := takeR 7) (fun te => te) (fun _ _ _ _ => rfl) (de_vw (tk 7 ⟨by omega, by omega⟩ rfl)) fun x hx => ?_) fun Δ' h => ?_
  · obtain ⟨n, rfl⟩ : ∃ n : Nat, x = n := ⟨x.toNat, by have := hx.1; omega⟩
    have hn : n < 7 := by have := hx.2; omega
    refine ds_for (is := [2]) (I := fun k Δ => ∃ (xs : List Nm) (s2 s3 s4 : Sl), Δ = [.vw (.p pot), .own (JL xs), s2, s3, s4] ∧ xs.length = k) (di_range1 (m := n) (da_cons (de_vw de_nat) da_nil) (by omega)) ⟨[], _, _, _, rfl, rfl⟩ (fun k x Δk hx hI => ?_) fun Δk ⟨xs, s2, s3, s4, e, _⟩ => ⟨xs, s2, s3, s4, e⟩
    obtain ⟨xs, s2, s3, s4, rfl, hl⟩ := hI
    have hk : k < n := by
      have := (List.getElem?_eq_some_iff.mp hx).1
      simpa using this
    refine ⟨_, gb_n, ?_⟩
    refine ds_l (de_sm (S := fun z : Nm => z.1.length = 0) (de_vw (de_str (x := nmE))) rfl) ?_
    refine ds_seq (M := fun Δ => ∃ (j : Nat) (s4 : Sl), Δ = [.vw (.p pot), .own (JL xs), .own (.p (dat (enc x))), .own (.p (sm fun z : Nm => z.1.length = j)), s4]) (ds_forSm (S := takeR 8) (fun te => tOp (rAddA K) (tC (.int 1)) te) (fun _ _ _ _ => rfl) (de_vw (tk 8 ⟨by omega, by omega⟩ rfl)) fun y hy => ?_) fun Δ' h => ?_
    · obtain ⟨q, rfl⟩ : ∃ n : Nat, y = n := ⟨y.toNat, by have := hy.1; omega⟩
      have hq : q < 8 := by have := hy.2; omega
      refine ds_for (is := [4]) (I := fun j Δ => ∃ s4 : Sl, Δ = [.vw (.p pot), .own (JL xs), .own (.p (dat (enc x))), .own (.p (sm fun z : Nm => z.1.length = j)), s4]) (di_range1 (m := 1 + q) (da_cons (de_vw (de_addN (de_vw (de_nat (i := 1))) (de_vw de_nat))) da_nil) (by omega)) ⟨_, rfl⟩ (fun j y Δj hy hI => ?_) fun Δj ⟨s4, e⟩ => ⟨_, s4, e⟩
      obtain ⟨s5, rfl⟩ := hI
      have hj : j < 1 + q := by
        have := (List.getElem?_eq_some_iff.mp hy).1
        simpa using this
      refine ⟨_, gb_n, ds_open (S := fun z : Nm => z.1.length = j) 3 rfl fun z hz => ?_⟩
      refine ds_s (de_opSm (r := .p (sm fun z : Nm => z.1.length = j + 1)) (t1 := J z) (S := fun c : Nm => c.1.length = 1) (de_var rfl) (de_vw (de_opSm (t1 := JS lettersS) (S := takeR 26) (de_vw de_s) (de_vw (tk 26 ⟨by omega, by omega⟩ rfl)) ?_)) ?_) ⟨_, rfl⟩
      · intro y hy u v G H Q s r1 r2 q
        obtain ⟨b, rfl⟩ : ∃ n : Nat, y = n := ⟨y.toNat, by have := hy.1; omega⟩
        have hb : b < 26 := by have := hy.2; omega
        obtain ⟨c, hc, hc2⟩ : ∃ c, atI lettersS.cps.toList (b : Int) = some c ∧ decide (c < 0x110000) = true := by
          have := letters_at b hb
          cases e : atI lettersS.cps.toList (b : Int) with
          | none => rw [e] at this; cases this
          | some c => rw [e] at this; exact ⟨c, rfl, this⟩
        have ok : PyData.strOk ⟨#[c]⟩ = true := by
          have : c < 0x110000 := by simpa using hc2
          simp [PyData.strOk, this]
        exact .inl (.inr (.inr ⟨lettersS, b, c, VR_str r1, VR_int r2, by rw [hsz]; decide +kernel, hc, q _ G H (Ext.refl s) (OwnR.leaf ⟨⟨⟨#[c]⟩, ok⟩, rfl, .str _⟩)⟩))
      · intro c hc u v G H Q s r1 r2 q
        have e1 := Pv.one _ _ _ (VR_J s r1)
        have e2 := Pv.one _ _ _ (VR_J s r2)
        have hl : (z.1 ++ c.1).length = j + 1 := by
          show (z.1.cps ++ c.1.cps).size = j + 1
          rw [Array.size_append]
          have h1 : z.1.cps.size = j := hz
          have h2 : c.1.cps.size = 1 := hc
          rw [h1, h2]
        exact .inr (.inr (.inl ⟨z.1, c.1, e1, e2, by rw [hz, hc]; omega, q _ G H (Ext.refl s) (OwnR.leaf ⟨⟨z.1 ++ c.1, strOk_app z.2 c.2⟩, hl, .str _⟩)⟩))
    · obtain ⟨j, s5, rfl⟩ := h
      refine ds_open (S := fun z : Nm => z.1.length = j) 3 rfl fun z hz => ?_
      refine ds_append (dv_var rfl) rfl rfl (de_varL rfl) (by rw [List.length_map, hl]; omega) ⟨xs ++ [z], .own (.p (dat (enc x))), .own (J z), s5, by rw [← JL_snoc]; rfl, by simp [hl]⟩
  · obtain ⟨xs, s2, s3, s4, rfl⟩ := h
    refine ds_frzL 1 rfl ?_
    exact ds_ret (de_sm (de_vw (de_varL rfl)) True.intro) rfl
end
end U

set_option Elab.async false
set_option linter.all false
set_option maxRecDepth 100000
set_option maxHeartbeats 4000000
namespace U
open PySem PySem.Spec L2
open En (enc)
section
variable {Pg : Program} {w : World} {K : PySem.W.Frag} {mg : Str → Option Value} {base : Heap}
/-! ### the exceptions' __init__ -/
theorem ok_NoMove_init (T : Txt K mg) : FnOk Pg w K mg base CX0 1 T.NoMove_init T.NoMove_init_d P_NoMove_init (spX1 K T.c_NoMove "at") :=
  T.NoMove_init_F.ok sc_NoMove_init (fun vs H Q E ⟨a, y, e, _⟩ => by rw [e]; rfl) (fun cdv A outer s H vs Q E hr h => ⟨_, pss_one (ps_ost (pv 0) (pv 1)), run_X1 h⟩)
theorem ok_Held_init (T : Txt K mg) : FnOk Pg w K mg base CX0 1 T.Held_init T.Held_init_d P_Held_init (spX1 K T.c_Held "at") :=
  T.Held_init_F.ok sc_Held_init (fun vs H Q E ⟨a, y, e, _⟩ => by rw [e]; rfl) (fun cdv A outer s H vs Q E hr h => ⟨_, pss_one (ps_ost (pv 0) (pv 1)), run_X1 h⟩)
theorem ok_Full_init (T : Txt K mg) : FnOk Pg w K mg base CX0 1 T.Full_init T.Full_init_d P_Full_init (spX1 K T.c_Full "at") :=
  T.Full_init_F.ok sc_Full_init (fun vs H Q E ⟨a, y, e, _⟩ => by rw [e]; rfl) (fun cdv A outer s H vs Q E hr h => ⟨_, pss_one (ps_ost (pv 0) (pv 1)), run_X1 h⟩)
theorem ok_Twice_init (T : Txt K mg) : FnOk Pg w K mg base CX0 1 T.Twice_init T.Twice_init_d P_Twice_init (spX1 K T.c_Twice "number") :=
  T.Twice_init_F.ok sc_Twice_init (fun vs H Q E ⟨a, y, e, _⟩ => by rw [e]; rfl) (fun cdv A outer s H vs Q E hr h => ⟨_, pss_one (ps_ost (pv 0) (pv 1)), run_X1 h⟩)
theorem ok_Apart_init (T : Txt K mg) : FnOk Pg w K mg base CX0 1 T.Apart_init T.Apart_init_d P_Apart_init (spX2 K T.c_Apart "one" "other") :=
  T.Apart_init_F.ok sc_Apart_init (fun vs H Q E ⟨a, y, z, e, _⟩ => by rw [e]; rfl) (fun cdv A outer s H vs Q E hr h => ⟨_, pss_cons (ps_ost (pv 0) (pv 1)) (pss_one (ps_ost (pv 0) (pv 2))), run_X2 h⟩)
theorem ok_Clash_init (T : Txt K mg) : FnOk Pg w K mg base CX0 1 T.Clash_init T.Clash_init_d P_Clash_init (spX2 K T.c_Clash "one" "other") :=
  T.Clash_init_F.ok sc_Clash_init (fun vs H Q E ⟨a, y, z, e, _⟩ => by rw [e]; rfl) (fun cdv A outer s H vs Q E hr h => ⟨_, pss_cons (ps_ost (pv 0) (pv 1)) (pss_one (ps_ost (pv 0) (pv 2))), run_X2 h⟩)
theorem ok_Crowded_init (T : Txt K mg) : FnOk Pg w K mg base CX0 1 T.Crowded_init T.Crowded_init_d P_Crowded_init (spXL K T.c_Crowded "row") :=
  T.Crowded_init_F.ok sc_Crowded_init (fun vs H Q E ⟨a, y, z, e, _⟩ => by rw [e]; rfl) (fun cdv A outer s H vs Q E hr h => ⟨_, pss_one (ps_ost (pv 0) (pe_callTy (listK K rfl) (by rfl) T.n_list (by decide +kernel) (pa_cons (pv 1) pa_nil))), run_XL h⟩)
/-! ### kinds -/
/-- what is known of the exception class at C, the i-th of the sixteen -/
structure Kn (K : PySem.W.Frag) (T : Txt K mg) (C : Addr) (i : Nat) : Prop where
  x : XcC K C
  v : PySem.W.kitOne K (.ref C) (.type "ValueError") = some true
  n : PySem.W.kitOne K (.ref C) (.ref T.c_NetError) = some true
  k0 : PySem.W.kitOne K (.ref C) (.ref T.c_NoNet) = some (decide (i = 0))
  k1 : PySem.W.kitOne K (.ref C) (.ref T.c_NoText) = some (decide (i = 1))
  k2 : PySem.W.kitOne K (.ref C) (.ref T.c_NoMove) = some (decide (i = 2))
  k3 : PySem.W.kitOne K (.ref C) (.ref T.c_Held) = some (decide (i = 3))
  k4 : PySem.W.kitOne K (.ref C) (.ref T.c_Full) = some (decide (i = 4))
  k5 : PySem.W.kitOne K (.ref C) (.ref T.c_Crowded) = some (decide (i = 5))
  k6 : PySem.W.kitOne K (.ref C) (.ref T.c_NoSpot) = some (decide (i = 6))
  k7 : PySem.W.kitOne K (.ref C) (.ref T.c_Misfit) = some (decide (i = 7))
  k8 : PySem.W.kitOne K (.ref C) (.ref T.c_Apart) = some (decide (i = 8))
  k9 : PySem.W.kitOne K (.ref C) (.ref T.c_Twice) = some (decide (i = 9))
  k10 : PySem.W.kitOne K (.ref C) (.ref T.c_NoOccurrence) = some (decide (i = 10))
  k11 : PySem.W.kitOne K (.ref C) (.ref T.c_Clash) = some (decide (i = 11))
  k12 : PySem.W.kitOne K (.ref C) (.ref T.c_TooMany) = some (decide (i = 12))
  k13 : PySem.W.kitOne K (.ref C) (.ref T.c_NoPlace) = some (decide (i = 13))
  k14 : PySem.W.kitOne K (.ref C) (.ref T.c_NoRow) = some (decide (i = 14))
  k15 : PySem.W.kitOne K (.ref C) (.ref T.c_NoName) = some (decide (i = 15))
theorem kn_NoNet (T : Txt K mg) : Kn K T T.c_NoNet 0 := ⟨T.NoNet_x, T.NoNet_v, T.NoNet_is_NetError, T.NoNet_is_NoNet, T.NoNet_is_NoText, T.NoNet_is_NoMove, T.NoNet_is_Held, T.NoNet_is_Full, T.NoNet_is_Crowded, T.NoNet_is_NoSpot, T.NoNet_is_Misfit, T.NoNet_is_Apart, T.NoNet_is_Twice, T.NoNet_is_NoOccurrence, T.NoNet_is_Clash, T.NoNet_is_TooMany, T.NoNet_is_NoPlace, T.NoNet_is_NoRow, T.NoNet_is_NoName⟩
theorem kn_NoText (T : Txt K mg) : Kn K T T.c_NoText 1 := ⟨T.NoText_x, T.NoText_v, T.NoText_is_NetError, T.NoText_is_NoNet, T.NoText_is_NoText, T.NoText_is_NoMove, T.NoText_is_Held, T.NoText_is_Full, T.NoText_is_Crowded, T.NoText_is_NoSpot, T.NoText_is_Misfit, T.NoText_is_Apart, T.NoText_is_Twice, T.NoText_is_NoOccurrence, T.NoText_is_Clash, T.NoText_is_TooMany, T.NoText_is_NoPlace, T.NoText_is_NoRow, T.NoText_is_NoName⟩
theorem kn_NoMove (T : Txt K mg) : Kn K T T.c_NoMove 2 := ⟨T.NoMove_x, T.NoMove_v, T.NoMove_is_NetError, T.NoMove_is_NoNet, T.NoMove_is_NoText, T.NoMove_is_NoMove, T.NoMove_is_Held, T.NoMove_is_Full, T.NoMove_is_Crowded, T.NoMove_is_NoSpot, T.NoMove_is_Misfit, T.NoMove_is_Apart, T.NoMove_is_Twice, T.NoMove_is_NoOccurrence, T.NoMove_is_Clash, T.NoMove_is_TooMany, T.NoMove_is_NoPlace, T.NoMove_is_NoRow, T.NoMove_is_NoName⟩
theorem kn_Held (T : Txt K mg) : Kn K T T.c_Held 3 := ⟨T.Held_x, T.Held_v, T.Held_is_NetError, T.Held_is_NoNet, T.Held_is_NoText, T.Held_is_NoMove, T.Held_is_Held, T.Held_is_Full, T.Held_is_Crowded, T.Held_is_NoSpot, T.Held_is_Misfit, T.Held_is_Apart, T.Held_is_Twice, T.Held_is_NoOccurrence, T.Held_is_Clash, T.Held_is_TooMany, T.Held_is_NoPlace, T.Held_is_NoRow, T.Held_is_NoName⟩
theorem kn_Full (T : Txt K mg) : Kn K T T.c_Full 4 := ⟨T.Full_x, T.Full_v, T.Full_is_NetError, T.Full_is_NoNet, T.Full_is_NoText, T.Full_is_NoMove, T.Full_is_Held, T.Full_is_Full, T.Full_is_Crowded, T.Full_is_NoSpot, T.Full_is_Misfit, T.Full_is_Apart, T.Full_is_Twice, T.Full_is_NoOccurrence, T.Full_is_Clash, T.Full_is_TooMany, T.Full_is_NoPlace, T.Full_is_NoRow, T.Full_is_NoName⟩
theorem kn_Crowded (T : Txt K mg) : Kn K T T.c_Crowded 5 := ⟨T.Crowded_x, T.Crowded_v, T.Crowded_is_NetError, T.Crowded_is_NoNet, T.Crowded_is_NoText, T.Crowded_is_NoMove, T.Crowded_is_Held, T.Crowded_is_Full, T.Crowded_is_Crowded, T.Crowded_is_NoSpot, T.Crowded_is_Misfit, T.Crowded_is_Apart, T.Crowded_is_Twice, T.Crowded_is_NoOccurrence, T.Crowded_is_Clash, T.Crowded_is_TooMany, T.Crowded_is_NoPlace, T.Crowded_is_NoRow, T.Crowded_is_NoName⟩
theorem kn_NoSpot (T : Txt K mg) : Kn K T T.c_NoSpot 6 := ⟨T.NoSpot_x, T.NoSpot_v, T.NoSpot_is_NetError, T.NoSpot_is_NoNet, T.NoSpot_is_NoText, T.NoSpot_is_NoMove, T.NoSpot_is_Held, T.NoSpot_is_Full, T.NoSpot_is_Crowded, T.NoSpot_is_NoSpot, T.NoSpot_is_Misfit, T.NoSpot_is_Apart, T.NoSpot_is_Twice, T.NoSpot_is_NoOccurrence, T.NoSpot_is_Clash, T.NoSpot_is_TooMany, T.NoSpot_is_NoPlace, T.NoSpot_is_NoRow, T.NoSpot_is_NoName⟩
theorem kn_Misfit (T : Txt K mg) : Kn K T T.c_Misfit 7 := ⟨T.Misfit_x, T.Misfit_v, T.Misfit_is_NetError, T.Misfit_is_NoNet, T.Misfit_is_NoText, T.Misfit_is_NoMove, T.Misfit_is_Held, T.Misfit_is_Full, T.Misfit_is_Crowded, T.Misfit_is_NoSpot, T.Misfit_is_Misfit, T.Misfit_is_Apart, T.Misfit_is_Twice, T.Misfit_is_NoOccurrence, T.Misfit_is_Clash, T.Misfit_is_TooMany, T.Misfit_is_NoPlace, T.Misfit_is_NoRow, T.Misfit_is_NoName⟩
theorem kn_Apart (T : Txt K mg) : Kn K T T.c_Apart 8 := ⟨T.Apart_x, T.Apart_v, T.Apart_is_NetError, T.Apart_is_NoNet, T.Apart_is_NoText, T.Apart_is_NoMove, T.Apart_is_Held, T.Apart_is_Full, T.Apart_is_Crowded, T.Apart_is_NoSpot, T.Apart_is_Misfit, T.Apart_is_Apart, T.Apart_is_Twice, T.Apart_is_NoOccurrence, T.Apart_is_Clash, T.Apart_is_TooMany, T.Apart_is_NoPlace, T.Apart_is_NoRow, T.Apart_is_NoName⟩
theorem kn_Twice (T : Txt K mg) : Kn K T T.c_Twice 9 := ⟨T.Twice_x, T.Twice_v, T.Twice_is_NetError, T.Twice_is_NoNet, T.Twice_is_NoText, T.Twice_is_NoMove, T.Twice_is_Held, T.Twice_is_Full, T.Twice_is_Crowded, T.Twice_is_NoSpot, T.Twice_is_Misfit, T.Twice_is_Apart, T.Twice_is_Twice, T.Twice_is_NoOccurrence, T.Twice_is_Clash, T.Twice_is_TooMany, T.Twice_is_NoPlace, T.Twice_is_NoRow, T.Twice_is_NoName⟩
theorem kn_NoOccurrence (T : Txt K mg) : Kn K T T.c_NoOccurrence 10 := ⟨T.NoOccurrence_x, T.NoOccurrence_v, T.NoOccurrence_is_NetError, T.NoOccurrence_is_NoNet, T.NoOccurrence_is_NoText, T.NoOccurrence_is_NoMove, T.NoOccurrence_is_Held, T.NoOccurrence_is_Full, T.NoOccurrence_is_Crowded, T.NoOccurrence_is_NoSpot, T.NoOccurrence_is_Misfit, T.NoOccurrence_is_Apart, T.NoOccurrence_is_Twice, T.NoOccurrence_is_NoOccurrence, T.NoOccurrence_is_Clash, T.NoOccurrence_is_TooMany, T.NoOccurrence_is_NoPlace, T.NoOccurrence_is_NoRow, T.NoOccurrence_is_NoName⟩
theorem kn_Clash (T : Txt K mg) : Kn K T T.c_Clash 11 := ⟨T.Clash_x, T.Clash_v, T.Clash_is_NetError, T.Clash_is_NoNet, T.Clash_is_NoText, T.Clash_is_NoMove, T.Clash_is_Held, T.Clash_is_Full, T.Clash_is_Crowded, T.Clash_is_NoSpot, T.Clash_is_Misfit, T.Clash_is_Apart, T.Clash_is_Twice, T.Clash_is_NoOccurrence, T.Clash_is_Clash, T.Clash_is_TooMany, T.Clash_is_NoPlace, T.Clash_is_NoRow, T.Clash_is_NoName⟩
theorem kn_TooMany (T : Txt K mg) : Kn K T T.c_TooMany 12 := ⟨T.TooMany_x, T.TooMany_v, T.TooMany_is_NetError, T.TooMany_is_NoNet, T.TooMany_is_NoText, T.TooMany_is_NoMove, T.TooMany_is_Held, T.TooMany_is_Full, T.TooMany_is_Crowded, T.TooMany_is_NoSpot, T.TooMany_is_Misfit, T.TooMany_is_Apart, T.TooMany_is_Twice, T.TooMany_is_NoOccurrence, T.TooMany_is_Clash, T.TooMany_is_TooMany, T.TooMany_is_NoPlace, T.TooMany_is_NoRow, T.TooMany_is_NoName⟩
theorem kn_NoPlace (T : Txt K mg) : Kn K T T.c_NoPlace 13 := ⟨T.NoPlace_x, T.NoPlace_v, T.NoPlace_is_NetError, T.NoPlace_is_NoNet, T.NoPlace_is_NoText, T.NoPlace_is_NoMove, T.NoPlace_is_Held, T.NoPlace_is_Full, T.NoPlace_is_Crowded, T.NoPlace_is_NoSpot, T.NoPlace_is_Misfit, T.NoPlace_is_Apart, T.NoPlace_is_Twice, T.NoPlace_is_NoOccurrence, T.NoPlace_is_Clash, T.NoPlace_is_TooMany, T.NoPlace_is_NoPlace, T.NoPlace_is_NoRow, T.NoPlace_is_NoName⟩
theorem kn_NoRow (T : Txt K mg) : Kn K T T.c_NoRow 14 := ⟨T.NoRow_x, T.NoRow_v, T.NoRow_is_NetError, T.NoRow_is_NoNet, T.NoRow_is_NoText, T.NoRow_is_NoMove, T.NoRow_is_Held, T.NoRow_is_Full, T.NoRow_is_Crowded, T.NoRow_is_NoSpot, T.NoRow_is_Misfit, T.NoRow_is_Apart, T.NoRow_is_Twice, T.NoRow_is_NoOccurrence, T.NoRow_is_Clash, T.NoRow_is_TooMany, T.NoRow_is_NoPlace, T.NoRow_is_NoRow, T.NoRow_is_NoName⟩
theorem kn_NoName (T : Txt K mg) : Kn K T T.c_NoName 15 := ⟨T.NoName_x, T.NoName_v, T.NoName_is_NetError, T.NoName_is_NoNet, T.NoName_is_NoText, T.NoName_is_NoMove, T.NoName_is_Held, T.NoName_is_Full, T.NoName_is_Crowded, T.NoName_is_NoSpot, T.NoName_is_Misfit, T.NoName_is_Apart, T.NoName_is_Twice, T.NoName_is_NoOccurrence, T.NoName_is_Clash, T.NoName_is_TooMany, T.NoName_is_NoPlace, T.NoName_is_NoRow, T.NoName_is_NoName⟩
abbrev A_law_kinds : Type := Addr × List (Str × PyData) × Nat
abbrev sp_law_kinds (T : Txt K mg) : Sp := spP (A := A_law_kinds) (fun a => [.p (exL a.1 a.2.1)]) (fun a => Kn K T a.1 a.2.2 ∧ a.2.2 < 16) fun a => JL [a.2.2]
def bsK (i : Nat) : List Bool := (List.range 16).map fun j => decide (i = j)
theorem bsK_at : ∀ i < 16, ∀ x ∈ List.range 16, atI (bsK i) (x : Int) = some (decide (i = x)) := by decide +kernel
theorem bsK_f : ∀ i < 16, (List.range 16).filter (fun x => decide (i = x)) = [i] := by decide +kernel
theorem ok_law_kinds (T : Txt K mg) : FnOk Pg w K mg base CX0 1 T.law_kinds T.law_kinds_d P_law_kinds (sp_law_kinds T) := by
  refine Fun.pure T.law_kinds_F sc_law_kinds (fun _ => rfl) (fun cdv A outer s H E hr => ?_)
  have hu64 := u64 hr
  have hu65 := u65 hr
  have hu1 := u1 hr
  have nd := sc_law_kinds.nd
  refine ⟨_, (pss_cons (ps_set (i := 1) nd rfl (Or.inr rfl) (pe_lst (pa_cons (pe_callB (isXK K rfl) (by rfl) T.n_isinstance (by decide +kernel) (pa_cons (pv 0) (pa_cons (pe_glob (v := .ref T.c_NoNet) rfl T.NoNet_g rfl) pa_nil))) (pa_cons (pe_callB (isXK K rfl) (by rfl) T.n_isinstance (by decide +kernel) (pa_cons (pv 0) (pa_cons (pe_glob (v := .ref T.c_NoText) rfl T.NoText_g rfl) pa_nil))) (pa_cons (pe_callB (isXK K rfl) (by rfl) T.n_isinstance (by decide +kernel) (pa_cons (pv 0) (pa_cons (pe_glob (v := .ref T.c_NoMove) rfl T.NoMove_g rfl) pa_nil))) (pa_cons (pe_callB (isXK K rfl) (by rfl) T.n_isinstance (by decide +kernel) (pa_cons (pv 0) (pa_cons (pe_glob (v := .ref T.c_Held) rfl T.Held_g rfl) pa_nil))) pa_nil))))))
 (pss_cons (ps_set (i := 1) nd rfl (Or.inr rfl) (pe_op (addK K rfl) (pv 1) (pe_lst (pa_cons (pe_callB (isXK K rfl) (by rfl) T.n_isinstance (by decide +kernel) (pa_cons (pv 0) (pa_cons (pe_glob (v := .ref T.c_Full) rfl T.Full_g rfl) pa_nil))) (pa_cons (pe_callB (isXK K rfl) (by rfl) T.n_isinstance (by decide +kernel) (pa_cons (pv 0) (pa_cons (pe_glob (v := .ref T.c_Crowded) rfl T.Crowded_g rfl) pa_nil))) (pa_cons (pe_callB (isXK K rfl) (by rfl) T.n_isinstance (by decide +kernel) (pa_cons (pv 0) (pa_cons (pe_glob (v := .ref T.c_NoSpot) rfl T.NoSpot_g rfl) pa_nil))) pa_nil))))))
 (pss_cons (ps_set (i := 1) nd rfl (Or.inr rfl) (pe_op (addK K rfl) (pv 1) (pe_lst (pa_cons (pe_callB (isXK K rfl) (by rfl) T.n_isinstance (by decide +kernel) (pa_cons (pv 0) (pa_cons (pe_glob (v := .ref T.c_Misfit) rfl T.Misfit_g rfl) pa_nil))) (pa_cons (pe_callB (isXK K rfl) (by rfl) T.n_isinstance (by decide +kernel) (pa_cons (pv 0) (pa_cons (pe_glob (v := .ref T.c_Apart) rfl T.Apart_g rfl) pa_nil))) pa_nil)))))
 (pss_cons (ps_set (i := 1) nd rfl (Or.inr rfl) (pe_op (addK K rfl) (pv 1) (pe_lst (pa_cons (pe_callB (isXK K rfl) (by rfl) T.n_isinstance (by decide +kernel) (pa_cons (pv 0) (pa_cons (pe_glob (v := .ref T.c_Twice) rfl T.Twice_g rfl) pa_nil))) (pa_cons (pe_callB (isXK K rfl) (by rfl) T.n_isinstance (by decide +kernel) (pa_cons (pv 0) (pa_cons (pe_glob (v := .ref T.c_NoOccurrence) rfl T.NoOccurrence_g rfl) pa_nil))) (pa_cons (pe_callB (isXK K rfl) (by rfl) T.n_isinstance (by decide +kernel) (pa_cons (pv 0) (pa_cons (pe_glob (v := .ref T.c_Clash) rfl T.Clash_g rfl) pa_nil))) (pa_cons (pe_callB (isXK K rfl) (by rfl) T.n_isinstance (by decide +kernel) (pa_cons (pv 0) (pa_cons (pe_glob (v := .ref T.c_TooMany) rfl T.TooMany_g rfl) pa_nil))) pa_nil)))))))
 (pss_cons (ps_set (i := 1) nd rfl (Or.inr rfl) (pe_op (addK K rfl) (pv 1) (pe_lst (pa_cons (pe_callB (isXK K rfl) (by rfl) T.n_isinstance (by decide +kernel) (pa_cons (pv 0) (pa_cons (pe_glob (v := .ref T.c_NoPlace) rfl T.NoPlace_g rfl) pa_nil))) (pa_cons (pe_callB (isXK K rfl) (by rfl) T.n_isinstance (by decide +kernel) (pa_cons (pv 0) (pa_cons (pe_glob (v := .ref T.c_NoRow) rfl T.NoRow_g rfl) pa_nil))) (pa_cons (pe_callB (isXK K rfl) (by rfl) T.n_isinstance (by decide +kernel) (pa_cons (pv 0) (pa_cons (pe_glob (v := .ref T.c_NoName) rfl T.NoName_g rfl) pa_nil))) pa_nil))))))
 (pss_cons (ps_if (PW.pt (pw_or (pt_not (pt_val (pe_callB (isXK K rfl) (by rfl) T.n_isinstance (by decide +kernel) (pa_cons (pv 0) (pa_cons (pe_glob (v := .ref T.c_NetError) rfl T.NetError_g rfl) pa_nil))))) (pw_or1 (pt_not (pt_val (pe_callB (isXK K rfl) (by rfl) T.n_isinstance (by decide +kernel) (pa_cons (pv 0) (pa_cons (pe_bltn (v := .ty "ValueError") (by rfl) T.n_ValueError (by decide +kernel) rfl) pa_nil))))))))
 (pss_one (ps_ret pe_non))
 pss_nil)
 (pss_one (ps_ret (pe_lc rfl nd (pi_range1 (by rfl) T.n_range (pa_cons pe_int pa_nil)) (blkOk_by (own := [("k", 2)]) (N := N_law_kinds) (by kernel_rfl)) (fun _ _ _ _ _ => (pg_name (i := 2) nd rfl (Or.inl rfl))) (fun _ _ _ _ _ => (pts_one (pt_val (pe_ix (ixK K rfl hu1) (pv 1) (pv 2) (fun _ _ => rfl))))) (fun _ _ _ _ _ => (pv 2))))))))))), fun a hp => ?_⟩
  obtain ⟨C, fs, i⟩ := a
  obtain ⟨k, hi⟩ := hp
  have hsz := sizeLine_eq
  have is : ∀ {Δ : List Sl} (D : Addr) {b : Bool}, Δ[0]? = some (.vw (.p (exL C fs))) → PySem.W.kitOne K (.ref C) (.ref D) = some b → DE (tCB (rIsX K) (tCons (tVar 0) (tCons (tC (.ref D)) tNil))) Δ (.own (J b)) := fun {Δ} D {b} h0 hk =>
    de_isX (de_vw (de_varVL h0)) (fun _ _ _ => Iff.rfl) k.x T.xg (.own D) hk
  have iv : ∀ {Δ : List Sl}, Δ[0]? = some (.vw (.p (exL C fs))) → DE (tCB (rIsX K) (tCons (tVar 0) (tCons (tC (.ty "ValueError")) tNil))) Δ (.own (J true)) := fun {Δ} h0 =>
    de_isX (de_vw (de_varVL h0)) (fun _ _ _ => Iff.rfl) k.x T.xg (.ty _) k.v
  refine ds_l (r := JL [decide (i = 0), decide (i = 1), decide (i = 2), decide (i = 3)]) (de_lst (dao_cons (is T.c_NoNet rfl k.k0) (dao_cons (is T.c_NoText rfl k.k1) (dao_cons (is T.c_NoMove rfl k.k2) (dao_cons (is T.c_Held rfl k.k3) dao_nil)))) (by rw [hsz]; show 4 ≤ 16777216; omega)) ?_
  refine ds_l (de_cat (xs := [decide (i = 0), decide (i = 1), decide (i = 2), decide (i = 3)]) (ys := [decide (i = 4), decide (i = 5), decide (i = 6)]) (de_var rfl) (de_vw (de_lst (dao_cons (is T.c_Full rfl k.k4) (dao_cons (is T.c_Crowded rfl k.k5) (dao_cons (is T.c_NoSpot rfl k.k6) dao_nil))) (by rw [hsz]; show 3 ≤ 16777216; omega))) (by rw [hsz]; show 7 ≤ 16777216; omega)) ?_
  refine ds_l (de_cat (xs := [decide (i = 0), decide (i = 1), decide (i = 2), decide (i = 3), decide (i = 4), decide (i = 5), decide (i = 6)]) (ys := [decide (i = 7), decide (i = 8)]) (de_var rfl) (de_vw (de_lst (dao_cons (is T.c_Misfit rfl k.k7) (dao_cons (is T.c_Apart rfl k.k8) dao_nil)) (by rw [hsz]; show 2 ≤ 16777216; omega))) (by rw [hsz]; show 9 ≤ 16777216; omega)) ?_
  refine ds_l (de_cat (xs := [decide (i = 0), decide (i = 1), decide (i = 2), decide (i = 3), decide (i = 4), decide (i = 5), decide (i = 6), decide (i = 7), decide (i = 8)]) (ys := [decide (i = 9), decide (i = 10), decide (i = 11), decide (i = 12)]) (de_var rfl) (de_vw (de_lst (dao_cons (is T.c_Twice rfl k.k9) (dao_cons (is T.c_NoOccurrence rfl k.k10) (dao_cons (is T.c_Clash rfl k.k11) (dao_cons (is T.c_TooMany rfl k.k12) dao_nil)))) (by rw [hsz]; show 4 ≤ 16777216; omega))) (by rw [hsz]; show 13 ≤ 16777216; omega)) ?_
  refine ds_l (de_cat (xs := [decide (i = 0), decide (i = 1), decide (i = 2), decide (i = 3), decide (i = 4), decide (i = 5), decide (i = 6), decide (i = 7), decide (i = 8), decide (i = 9), decide (i = 10), decide (i = 11), decide (i = 12)]) (ys := [decide (i = 13), decide (i = 14), decide (i = 15)]) (de_var rfl) (de_vw (de_lst (dao_cons (is T.c_NoPlace rfl k.k13) (dao_cons (is T.c_NoRow rfl k.k14) (dao_cons (is T.c_NoName rfl k.k15) dao_nil))) (by rw [hsz]; show 3 ≤ 16777216; omega))) (by rw [hsz]; show 16 ≤ 16777216; omega)) ?_
  refine ds_i (b := false) (dt_or (b := false) (dt_not (b := true) (dt_tB (de_vw (is _ rfl k.n)))) fun _ => dt_not (b := true) (dt_tB (de_vw (iv rfl)))) (fun h => by cases h) (fun _ => ds_nx ?_)
  refine ds_ret (r := JL [i]) (de_cast (de_lcP (α := Nat) (p := fun x => decide (i = x)) (di_range1 (m := 16) (da_cons (de_vw de_nat) da_nil) (by omega)).weak (fun x hx => gb_n) (fun x hx => dt_tB (de_vw (de_ix (xs := bsK i) (i := (x : Int)) (de_var rfl) (de_var rfl) (bsK_at i hi x hx)))) fun x hx _ => de_varL rfl) (by rw [bsK_f i hi])) rfl
end
end U

set_option Elab.async false
set_option linter.all false
set_option maxRecDepth 100000
set_option maxHeartbeats 4000000
namespace U
open PySem PySem.Spec L2
open En (enc)
section
variable {K : PySem.W.Frag} {te ta tb tl : TE} {Δ : List Sl} {t1 t2 : OT} {α δ : Type} [En α]
theorem de_eqT {x y : α} [DecidableEq α] (ha : DE ta Δ (.vw t1)) (hb : DE tb Δ (.vw t2)) (i1 : Isd t1 (enc x)) (i2 : Isd t2 (enc y)) (h : x = y) (hd : En.D α ≤ 64 := by decide) : DE (tOp (rEqD K) ta tb) Δ (.own (J true)) := de_cast (de_eq ha hb i1 i2 hd) (by rw [decide_eq_true h])
theorem de_neF {x y : α} [DecidableEq α] (ha : DE ta Δ (.vw t1)) (hb : DE tb Δ (.vw t2)) (i1 : Isd t1 (enc x)) (i2 : Isd t2 (enc y)) (h : x = y) (hd : En.D α ≤ 64 := by decide) : DE (tOp (rNeD K) ta tb) Δ (.own (J false)) := de_cast (de_ne ha hb i1 i2 hd) (by rw [decide_eq_true h]; rfl)
/-- + of lists of leaves -/
theorem leaf_ORs {c : δ → Mo} {G H : Hp} : ∀ {xs : List δ} {vs : List V}, VRs G H vs (xs.map fun x => .p (c x)) → ORs G H vs (xs.map fun x => .p (c x)) []
  | [], _, h => by cases h; exact .nil
  | x :: xs, _, h => by
    cases h with
    | cons a r =>
      cases a with
      | p a => exact .cons (f := []) (.p a) (leaf_ORs r)
theorem VRs_app {G H : Hp} : ∀ {vs us : List V} {ts rs : List OT}, VRs G H vs ts → VRs G H us rs → VRs G H (vs ++ us) (ts ++ rs)
  | _, _, _, _, .nil, h => h
  | _, _, _, _, .cons a r, h => .cons a (VRs_app r h)
theorem de_catP {c : δ → Mo} {xs ys : List δ} (ha : DE ta Δ (.vw (.l (xs.map fun x => .p (c x))))) (hb : DE tb Δ (.vw (.l (ys.map fun x => .p (c x))))) (hz : xs.length + ys.length ≤ sizeLine) : DE (tOp (rAddA K) ta tb) Δ (.own (.l ((xs ++ ys).map fun x => .p (c x)))) :=
  de_op ha hb fun x y G H Q s r1 r2 q => by
    cases r1 with
    | l h1 r1 =>
      cases r2 with
      | l h2 r2 =>
        have a := r1.len
        have b := r2.len
        refine .inr (.inl ⟨_, _, _, _, rfl, rfl, h1, h2, ?_, fun p hp => q _ G _ (Ext.new s hp _) (OwnR.newL (fp := []) s (Same.refl _) hp (leaf_ORs ?_) List.nodup_nil fun a ha => by simp at ha)⟩)
        · simp only [List.length_map] at a b
          omega
        · rw [List.map_append]; exact VRs_app r1 r2
end
section
variable {Pg : Program} {w : World} {K : PySem.W.Frag} {mg : Str → Option Value} {base : Heap}
abbrev It9 : Type := Addr × List (Str × PyData) × Nat
abbrev cI (x : It9) : Mo := exL x.1 x.2.1
theorem de_kinds (T : Txt K mg) {Δ : List Sl} {te : TE} {E : XK} {x : It9} (h : DE te Δ (.vw (.p (cI x)))) (k : Kn K T x.1 x.2.2) (hi : x.2.2 < 16) : DE (tCall (sp_law_kinds T) [] E (tCons te tNil)) Δ (.own (J [x.2.2])) :=
  de_freeze (de_call (a := x) (da_cons h da_nil) ⟨k, hi⟩)
/-- the kinds of such a list -/
theorem de_kindsL (T : Txt K mg) {Δ : List Sl} {tl : TE} {E : XK} {st : Bool} {i : Nat} {L : List It9} (hi : DI st (iSeq K tl) Δ cI L) (hw : ∀ x ∈ L, Kn K T x.1 x.2.2 ∧ x.2.2 < 16) (hz : (Δ[i]?).isSome = true) (hs : st = false) :
    DE (tLc (iSeq K tl) (gName i) tYes (tCall (sp_law_kinds T) [] E (tCons (tVar i) tNil)) [i]) Δ (.own (JL (L.map fun x => [x.2.2]))) := by
  subst hs
  refine de_lcM hi (fun x hx => gb_name (by simpa [wipeS] using ltl hz) List.mem_cons_self) (fun x hx => de_kinds T (de_vw (de_varL ?_)) (hw x hx).1 (hw x hx).2)
  have : i < (wipeS Δ [i]).length := by simpa [wipeS] using ltl hz
  simp [this]
def LBare (T : Txt K mg) : List It9 := [(T.c_NoNet, [], 0), (T.c_NoText, [], 1), (T.c_NoSpot, [], 6), (T.c_Misfit, [], 7), (T.c_NoOccurrence, [], 10), (T.c_TooMany, [], 12), (T.c_NoPlace, [], 13), (T.c_NoRow, [], 14), (T.c_NoName, [], 15)]
theorem ok_law_bare_right (T : Txt K mg) : FnOk Pg w K mg base CX0 2 T.law_bare_right T.law_bare_right_d P_law_bare_right (spP (A := Unit) (fun _ => []) (fun _ => True) fun _ => J true) := by
  have G_law_kinds := ok_law_kinds (Pg := Pg) (w := w) (base := base) T
  refine Fun.pure T.law_bare_right_F sc_law_bare_right (fun _ => rfl) (fun cdv A outer s H E hr => ?_)
  have hu64 := u64 hr
  have hu65 := u65 hr
  have hu1 := u1 hr
  have nd := sc_law_bare_right.nd
  refine ⟨_, (pss_cons (ps_set (i := 0) nd rfl (Or.inl rfl) (pe_lst (pa_cons (pe_exc0 PySem.F.excBase_ValueError T.NoNet_q T.NoNet_k (by rfl) T.NoNet_g) (pa_cons (pe_exc0 PySem.F.excBase_ValueError T.NoText_q T.NoText_k (by rfl) T.NoText_g) (pa_cons (pe_exc0 PySem.F.excBase_ValueError T.NoSpot_q T.NoSpot_k (by rfl) T.NoSpot_g) (pa_cons (pe_exc0 PySem.F.excBase_ValueError T.Misfit_q T.Misfit_k (by rfl) T.Misfit_g) (pa_cons (pe_exc0 PySem.F.excBase_ValueError T.NoOccurrence_q T.NoOccurrence_k (by rfl) T.NoOccurrence_g) (pa_cons (pe_exc0 PySem.F.excBase_ValueError T.TooMany_q T.TooMany_k (by rfl) T.TooMany_g) (pa_cons (pe_exc0 PySem.F.excBase_ValueError T.NoPlace_q T.NoPlace_k (by rfl) T.NoPlace_g) (pa_cons (pe_exc0 PySem.F.excBase_ValueError T.NoRow_q T.NoRow_k (by rfl) T.NoRow_g) (pa_cons (pe_exc0 PySem.F.excBase_ValueError T.NoName_q T.NoName_k (by rfl) T.NoName_g) pa_nil)))))))))))
 (pss_one (ps_ret (pe_cmpR (eqK K rfl hu64) (pe_lc rfl nd (seqK K rfl (szK K rfl (pv 0))) (blkOk_by (own := [("e", 1)]) (N := N_law_bare_right) (by kernel_rfl)) (fun _ _ _ _ _ => (pg_name (i := 1) nd rfl (Or.inl rfl))) (fun _ _ _ _ _ => pts_nil) (fun _ _ _ _ _ => (pe_call G_law_kinds (hr.mono (by decide)) (by rfl) T.law_kinds_g T.law_kinds_k T.law_kinds_b .nil pass0 (pa_cons (pv 1) pa_nil)))) (pe_lst (pa_cons (pe_lst (pa_cons pe_int pa_nil)) (pa_cons (pe_lst (pa_cons pe_int pa_nil)) (pa_cons (pe_lst (pa_cons pe_int pa_nil)) (pa_cons (pe_lst (pa_cons pe_int pa_nil)) (pa_cons (pe_lst (pa_cons pe_int pa_nil)) (pa_cons (pe_lst (pa_cons pe_int pa_nil)) (pa_cons (pe_lst (pa_cons pe_int pa_nil)) (pa_cons (pe_lst (pa_cons pe_int pa_nil)) (pa_cons (pe_lst (pa_cons pe_int pa_nil)) pa_nil)))))))))) (nomark _))))), fun a hp => ?_⟩
  have hsz := sizeLine_eq
  refine ds_l (r := .l ((LBare T).map fun x => .p (cI x))) (de_lst (dao_cons de_exc0 (dao_cons de_exc0 (dao_cons de_exc0 (dao_cons de_exc0 (dao_cons de_exc0 (dao_cons de_exc0 (dao_cons de_exc0 (dao_cons de_exc0 (dao_cons de_exc0 dao_nil))))))))) (by rw [hsz]; show 9 ≤ 16777216; omega)) ?_
  have hw : ∀ x ∈ LBare T, Kn K T x.1 x.2.2 ∧ x.2.2 < 16 := by
    intro x hx
    simp only [LBare, List.mem_cons, List.not_mem_nil, or_false] at hx
    rcases hx with rfl | rfl | rfl | rfl | rfl | rfl | rfl | rfl | rfl
    · exact ⟨kn_NoNet T, by show 0 < 16; omega⟩
    · exact ⟨kn_NoText T, by show 1 < 16; omega⟩
    · exact ⟨kn_NoSpot T, by show 6 < 16; omega⟩
    · exact ⟨kn_Misfit T, by show 7 < 16; omega⟩
    · exact ⟨kn_NoOccurrence T, by show 10 < 16; omega⟩
    · exact ⟨kn_TooMany T, by show 12 < 16; omega⟩
    · exact ⟨kn_NoPlace T, by show 13 < 16; omega⟩
    · exact ⟨kn_NoRow T, by show 14 < 16; omega⟩
    · exact ⟨kn_NoName T, by show 15 < 16; omega⟩

  exact ds_ret (de_eqT (x := (LBare T).map fun x => [x.2.2]) (y := [[0], [1], [6], [7], [10], [12], [13], [14], [15]]) (de_vw (de_kindsL T (di_L (di_listV (de_var rfl))) hw rfl rfl)) (de_vw (de_lst (dao_cons (de_lst (dao_cons (de_nat (i := 0)) dao_nil) (by rw [hsz]; show 1 ≤ 16777216; omega)) (dao_cons (de_lst (dao_cons (de_nat (i := 1)) dao_nil) (by rw [hsz]; show 1 ≤ 16777216; omega)) (dao_cons (de_lst (dao_cons (de_nat (i := 6)) dao_nil) (by rw [hsz]; show 1 ≤ 16777216; omega)) (dao_cons (de_lst (dao_cons (de_nat (i := 7)) dao_nil) (by rw [hsz]; show 1 ≤ 16777216; omega)) (dao_cons (de_lst (dao_cons (de_nat (i := 10)) dao_nil) (by rw [hsz]; show 1 ≤ 16777216; omega)) (dao_cons (de_lst (dao_cons (de_nat (i := 12)) dao_nil) (by rw [hsz]; show 1 ≤ 16777216; omega)) (dao_cons (de_lst (dao_cons (de_nat (i := 13)) dao_nil) (by rw [hsz]; show 1 ≤ 16777216; omega)) (dao_cons (de_lst (dao_cons (de_nat (i := 14)) dao_nil) (by rw [hsz]; show 1 ≤ 16777216; omega)) (dao_cons (de_lst (dao_cons (de_nat (i := 15)) dao_nil) (by rw [hsz]; show 1 ≤ 16777216; omega)) dao_nil))))))))) (by rw [hsz]; show 9 ≤ 16777216; omega))) isd_JL (isd_l (f := fun xs : List Nat => JL xs) (xs := [[0], [1], [6], [7], [10], [12], [13], [14], [15]]) fun _ => isd_JL) rfl) rfl
theorem ok_law_right (T : Txt K mg) : FnOk Pg w K mg base CX0 3 T.law_right T.law_right_d P_law_right (spP (A := Unit) (fun _ => [.p pot]) (fun _ => True) fun _ => J true) := by
  have G_law_kinds := ok_law_kinds (Pg := Pg) (w := w) (base := base) T
  have G_law_number := ok_law_number (Pg := Pg) (w := w) (base := base) T
  have G_law_row := ok_law_row (Pg := Pg) (w := w) (base := base) T
  have G_law_bare_right := ok_law_bare_right (Pg := Pg) (w := w) (base := base) T
  have G_NoMove_init := ok_NoMove_init (Pg := Pg) (w := w) (base := base) T
  have G_Held_init := ok_Held_init (Pg := Pg) (w := w) (base := base) T
  have G_Full_init := ok_Full_init (Pg := Pg) (w := w) (base := base) T
  have G_Apart_init := ok_Apart_init (Pg := Pg) (w := w) (base := base) T
  have G_Clash_init := ok_Clash_init (Pg := Pg) (w := w) (base := base) T
  have G_Twice_init := ok_Twice_init (Pg := Pg) (w := w) (base := base) T
  have G_Crowded_init := ok_Crowded_init (Pg := Pg) (w := w) (base := base) T
  refine Fun.pure T.law_right_F sc_law_right (fun _ => rfl) (fun cdv A outer s H E hr => ?_)
  have hu64 := u64 hr
  have hu65 := u65 hr
  have hu1 := u1 hr
  have nd := sc_law_right.nd
  refine ⟨_, (pss_cons (ps_par (i := 1) (j := 2) (by rfl) nd rfl rfl (by decide) rfl rfl (pa_cons (pe_call G_law_number (hr.mono (by decide)) (by rfl) T.law_number_g T.law_number_k T.law_number_b .nil pass0 (pa_cons (pv 0) pa_nil)) (pa_cons (pe_call G_law_number (hr.mono (by decide)) (by rfl) T.law_number_g T.law_number_k T.law_number_b .nil pass0 (pa_cons (pv 0) pa_nil)) pa_nil)) (by rfl))
 (pss_cons (ps_set (i := 3) nd rfl (Or.inl rfl) (pe_call G_law_row (hr.mono (by decide)) (by rfl) T.law_row_g T.law_row_k T.law_row_b .nil pass0 (pa_cons (pv 0) pa_nil)))
 (pss_cons (ps_set (i := 4) nd rfl (Or.inl rfl) (pe_lst (pa_cons (pe_mkX T.NoMove_o T.NoMove_i T.NoMove_t G_NoMove_init (hr.mono (by decide)) T.NoMove_init_b pass0 (by rfl) T.NoMove_g (pa_cons (pv 1) pa_nil)) (pa_cons (pe_mkX T.Held_o T.Held_i T.Held_t G_Held_init (hr.mono (by decide)) T.Held_init_b pass0 (by rfl) T.Held_g (pa_cons (pv 1) pa_nil)) (pa_cons (pe_mkX T.Full_o T.Full_i T.Full_t G_Full_init (hr.mono (by decide)) T.Full_init_b pass0 (by rfl) T.Full_g (pa_cons (pv 2) pa_nil)) pa_nil)))))
 (pss_cons (ps_if (PW.pt (pw_or (pt_cmpR (neK K rfl hu64) (pe_lc rfl nd (seqK K rfl (szK K rfl (pv 4))) (blkOk_by (own := [("e", 8)]) (N := N_law_right) (by kernel_rfl)) (fun _ _ _ _ _ => (pg_name (i := 8) nd rfl (Or.inl rfl))) (fun _ _ _ _ _ => pts_nil) (fun _ _ _ _ _ => (xfK K rfl (pv 8)))) (pe_lst (pa_cons (pv 1) (pa_cons (pv 1) (pa_cons (pv 2) pa_nil)))) (nomark _)) (pw_or1 (pt_cmpR (neK K rfl hu64) (pe_lc rfl nd (seqK K rfl (szK K rfl (pv 4))) (blkOk_by (own := [("e", 8)]) (N := N_law_right) (by kernel_rfl)) (fun _ _ _ _ _ => (pg_name (i := 8) nd rfl (Or.inl rfl))) (fun _ _ _ _ _ => pts_nil) (fun _ _ _ _ _ => (pe_call G_law_kinds (hr.mono (by decide)) (by rfl) T.law_kinds_g T.law_kinds_k T.law_kinds_b .nil pass0 (pa_cons (pv 8) pa_nil)))) (pe_lst (pa_cons (pe_lst (pa_cons pe_int pa_nil)) (pa_cons (pe_lst (pa_cons pe_int pa_nil)) (pa_cons (pe_lst (pa_cons pe_int pa_nil)) pa_nil)))) (nomark _)))))
 (pss_one (ps_ret pe_bl))
 pss_nil)
 (pss_cons (ps_set (i := 5) nd rfl (Or.inl rfl) (pe_lst (pa_cons (pe_mkX T.Apart_o T.Apart_i T.Apart_t G_Apart_init (hr.mono (by decide)) T.Apart_init_b pass0 (by rfl) T.Apart_g (pa_cons (pv 1) (pa_cons (pv 2) pa_nil))) (pa_cons (pe_mkX T.Clash_o T.Clash_i T.Clash_t G_Clash_init (hr.mono (by decide)) T.Clash_init_b pass0 (by rfl) T.Clash_g (pa_cons (pv 2) (pa_cons (pv 1) pa_nil))) pa_nil))))
 (pss_cons (ps_if (pt_cmpR (neK K rfl hu64) (pe_lc rfl nd (seqK K rfl (szK K rfl (pv 5))) (blkOk_by (own := [("e", 8)]) (N := N_law_right) (by kernel_rfl)) (fun _ _ _ _ _ => (pg_name (i := 8) nd rfl (Or.inl rfl))) (fun _ _ _ _ _ => pts_nil) (fun _ _ _ _ _ => (pe_tup (pa_cons (xfK K rfl (pv 8)) (pa_cons (xfK K rfl (pv 8)) pa_nil))))) (pe_lst (pa_cons (pe_tup (pa_cons (pv 1) (pa_cons (pv 2) pa_nil))) (pa_cons (pe_tup (pa_cons (pv 2) (pa_cons (pv 1) pa_nil))) pa_nil))) (nomark _))
 (pss_one (ps_ret pe_bl))
 pss_nil)
 (pss_cons (ps_par (i := 6) (j := 7) (by rfl) nd rfl rfl (by decide) rfl rfl (pa_cons (pe_mkX T.Twice_o T.Twice_i T.Twice_t G_Twice_init (hr.mono (by decide)) T.Twice_init_b pass0 (by rfl) T.Twice_g (pa_cons (pv 1) pa_nil)) (pa_cons (pe_mkX T.Crowded_o T.Crowded_i T.Crowded_t G_Crowded_init (hr.mono (by decide)) T.Crowded_init_b pass0 (by rfl) T.Crowded_g (pa_cons (pe_callTy (listK K rfl) (by rfl) T.n_list (by decide +kernel) (pa_cons (pv 3) pa_nil)) pa_nil)) pa_nil)) (by rfl))
 (pss_cons (ps_if (pt_cmpR (neK K rfl hu64) (pe_lc rfl nd (seqK K rfl (szK K rfl (pe_op (addK K rfl) (pv 5) (pe_lst (pa_cons (pv 6) (pa_cons (pv 7) pa_nil)))))) (blkOk_by (own := [("e", 8)]) (N := N_law_right) (by kernel_rfl)) (fun _ _ _ _ _ => (pg_name (i := 8) nd rfl (Or.inl rfl))) (fun _ _ _ _ _ => pts_nil) (fun _ _ _ _ _ => (pe_call G_law_kinds (hr.mono (by decide)) (by rfl) T.law_kinds_g T.law_kinds_k T.law_kinds_b .nil pass0 (pa_cons (pv 8) pa_nil)))) (pe_lst (pa_cons (pe_lst (pa_cons pe_int pa_nil)) (pa_cons (pe_lst (pa_cons pe_int pa_nil)) (pa_cons (pe_lst (pa_cons pe_int pa_nil)) (pa_cons (pe_lst (pa_cons pe_int pa_nil)) pa_nil))))) (nomark _))
 (pss_one (ps_ret pe_bl))
 pss_nil)
 (pss_one (ps_ret (pe_and (pe_cmpR (eqK K rfl hu64) (xfK K rfl (pv 6)) (pv 1) (nomark _)) (pe_and (pe_cmpR (eqK K rfl hu64) (xfK K rfl (pv 7)) (pv 3) (nomark _)) (pe_one (pe_call0 G_law_bare_right (hr.mono (by decide)) (by rfl) T.law_bare_right_g T.law_bare_right_k T.law_bare_right_b .nil pass0)))))))))))))), fun a hp => ?_⟩
  have hsz := sizeLine_eq
  -- one, other, row
  have num : ∀ {Δ : List Sl} {E : XK}, Δ[0]? = some (.vw (.p pot)) → DE (tCall sp_law_number [] E (tCons (tVar 0) tNil)) Δ (.own (.p (sm fun _ : Int => True))) := fun {Δ E} h0 => de_call (a := ()) (da_cons (de_vw (de_varVL h0)) da_nil) True.intro
  refine ds_then (ds_par (num rfl) (num rfl) (by decide) (by decide) rfl) ?_
  refine ds_open (S := fun _ : Int => True) 1 rfl fun one _ => ?_
  refine ds_open (S := fun _ : Int => True) 2 rfl fun other _ => ?_
  refine ds_l (de_call (a := ()) (da_cons (de_vw (de_varVL rfl)) da_nil) True.intro) ?_
  refine ds_open (S := fun _ : List Nm => True) 3 rfl fun row _ => ?_
  -- placed
  refine ds_l (r := .l (([(T.c_NoMove, [("at", enc one)], 2), (T.c_Held, [("at", enc one)], 3), (T.c_Full, [("at", enc other)], 4)] : List It9).map fun x => .p (cI x))) (de_lst (dao_cons (de_X1 T.NoMove_o T.NoMove_a_at (de_vw (de_varL rfl))) (dao_cons (de_X1 T.Held_o T.Held_a_at (de_vw (de_varL rfl))) (dao_cons (de_X1 T.Full_o T.Full_a_at (de_vw (de_varL rfl))) dao_nil))) (by rw [hsz]; show 3 ≤ 16777216; omega)) ?_
  refine ds_i (b := false) (dt_or (b := false) (dt_of (de_vw (de_neF (x := [one, one, other]) (y := [one, one, other]) (t1 := JL [one, one, other]) (t2 := JL [one, one, other]) (de_vw ?_) (de_vw (de_lst (dao_cons (de_varL rfl) (dao_cons (de_varL rfl) (dao_cons (de_varL rfl) dao_nil))) (by rw [hsz]; show 3 ≤ 16777216; omega))) isd_JL isd_JL rfl))) fun _ => dt_of (de_vw (de_neF (x := [[2], [3], [4]]) (y := [[2], [3], [4]]) (t1 := JL [[2], [3], [4]]) (de_vw (de_kindsL T (L := [(T.c_NoMove, [("at", enc one)], 2), (T.c_Held, [("at", enc one)], 3), (T.c_Full, [("at", enc other)], 4)]) (di_L (di_listV (de_var rfl))) ?_ rfl rfl)) (de_vw (de_lst (dao_cons (de_lst (dao_cons (de_nat (i := 2)) dao_nil) (by rw [hsz]; show 1 ≤ 16777216; omega)) (dao_cons (de_lst (dao_cons (de_nat (i := 3)) dao_nil) (by rw [hsz]; show 1 ≤ 16777216; omega)) (dao_cons (de_lst (dao_cons (de_nat (i := 4)) dao_nil) (by rw [hsz]; show 1 ≤ 16777216; omega)) dao_nil))) (by rw [hsz]; show 3 ≤ 16777216; omega))) isd_JL (isd_l (f := fun xs : List Nat => JL xs) (xs := [[2], [3], [4]]) fun _ => isd_JL) rfl))) (fun h => by cases h) (fun _ => ds_nx ?_)
  · refine de_cast (de_lcM (f := fun x : It9 => if x.2.2 = 4 then other else one) (di_L (di_listV (de_var rfl))) (fun x hx => gb_n) fun x hx => ?_) rfl
    simp only [List.mem_cons, List.not_mem_nil, or_false] at hx
    rcases hx with rfl | rfl | rfl
    · exact de_xf (de_var rfl) T.NoMove_x T.NoMove_a_at rfl
    · exact de_xf (de_var rfl) T.Held_x T.Held_a_at rfl
    · exact de_xf (de_var rfl) T.Full_x T.Full_a_at rfl
  · intro x hx
    simp only [List.mem_cons, List.not_mem_nil, or_false] at hx
    rcases hx with rfl | rfl | rfl
    · exact ⟨kn_NoMove T, by show 2 < 16; omega⟩
    · exact ⟨kn_Held T, by show 3 < 16; omega⟩
    · exact ⟨kn_Full T, by show 4 < 16; omega⟩
  -- paired
  refine ds_l (r := .l (([(T.c_Apart, [("other", enc other), ("one", enc one)], 8), (T.c_Clash, [("other", enc one), ("one", enc other)], 11)] : List It9).map fun x => .p (cI x))) (de_lst (dao_cons (de_X2 T.Apart_o T.Apart_a_one T.Apart_a_other (de_vw (de_varL rfl)) (de_vw (de_varL rfl))) (dao_cons (de_X2 T.Clash_o T.Clash_a_one T.Clash_a_other (de_vw (de_varL rfl)) (de_vw (de_varL rfl))) dao_nil)) (by rw [hsz]; show 2 ≤ 16777216; omega)) ?_
  refine ds_i (b := false) (dt_of (de_vw (de_neF (x := [(one, other), (other, one)]) (y := [(one, other), (other, one)]) (t1 := JL [(one, other), (other, one)]) (t2 := JL [(one, other), (other, one)]) (de_vw ?_) (de_vw (de_lst (dao_cons (de_tup (dad_cons (de_varL rfl) (dad_cons (de_varL rfl) dad_nil)) (by rw [hsz]; show 2 ≤ 16777216; omega)) (dao_cons (de_tup (dad_cons (de_varL rfl) (dad_cons (de_varL rfl) dad_nil)) (by rw [hsz]; show 2 ≤ 16777216; omega)) dao_nil)) (by rw [hsz]; show 2 ≤ 16777216; omega))) isd_JL isd_JL rfl))) (fun h => by cases h) (fun _ => ds_nx ?_)
  · refine de_cast (de_lcM (f := fun x : It9 => if x.2.2 = 8 then (one, other) else (other, one)) (di_L (di_listV (de_var rfl))) (fun x hx => gb_n) fun x hx => ?_) rfl
    simp only [List.mem_cons, List.not_mem_nil, or_false] at hx
    rcases hx with rfl | rfl
    · exact de_tup (dad_cons (de_xf (de_var rfl) T.Apart_x T.Apart_a_one rfl) (dad_cons (de_xf (de_var rfl) T.Apart_x T.Apart_a_other rfl) dad_nil)) (by rw [hsz]; show 2 ≤ 16777216; omega)
    · exact de_tup (dad_cons (de_xf (de_var rfl) T.Clash_x T.Clash_a_one rfl) (dad_cons (de_xf (de_var rfl) T.Clash_x T.Clash_a_other rfl) dad_nil)) (by rw [hsz]; show 2 ≤ 16777216; omega)
  -- twice, crowded
  refine ds_then (ds_par (de_X1 T.Twice_o T.Twice_a_number (de_vw (de_varL rfl))) (de_XL T.Crowded_o T.Crowded_a_row (de_vw (de_list' (de_st_vw (de_open_st (xs := row) (de_varL rfl)))))) (ltl rfl) (ltl rfl) rfl) ?_
  refine ds_i (b := false) (dt_of (de_vw (de_neF (x := [[8], [11], [9], [5]]) (y := [[8], [11], [9], [5]]) (t1 := JL [[8], [11], [9], [5]]) (de_vw (de_kindsL T (L := ([(T.c_Apart, [("other", enc other), ("one", enc one)], 8), (T.c_Clash, [("other", enc one), ("one", enc other)], 11)] : List It9) ++ ([(T.c_Twice, [("number", enc one)], 9), (T.c_Crowded, [("row", enc row)], 5)] : List It9)) (di_L (di_listO (de_catP (c := cI) (xs := [(T.c_Apart, [("other", enc other), ("one", enc one)], 8), (T.c_Clash, [("other", enc one), ("one", enc other)], 11)]) (ys := [(T.c_Twice, [("number", enc one)], 9), (T.c_Crowded, [("row", enc row)], 5)]) (de_var rfl) (de_vw (de_lst (dao_cons (de_varL rfl) (dao_cons (de_varL rfl) dao_nil)) (by rw [hsz]; show 2 ≤ 16777216; omega))) (by rw [hsz]; show 4 ≤ 16777216; omega)))).weak ?_ rfl rfl)) (de_vw (de_lst (dao_cons (de_lst (dao_cons (de_nat (i := 8)) dao_nil) (by rw [hsz]; show 1 ≤ 16777216; omega)) (dao_cons (de_lst (dao_cons (de_nat (i := 11)) dao_nil) (by rw [hsz]; show 1 ≤ 16777216; omega)) (dao_cons (de_lst (dao_cons (de_nat (i := 9)) dao_nil) (by rw [hsz]; show 1 ≤ 16777216; omega)) (dao_cons (de_lst (dao_cons (de_nat (i := 5)) dao_nil) (by rw [hsz]; show 1 ≤ 16777216; omega)) dao_nil)))) (by rw [hsz]; show 4 ≤ 16777216; omega))) isd_JL (isd_l (f := fun xs : List Nat => JL xs) (xs := [[8], [11], [9], [5]]) fun _ => isd_JL) rfl))) (fun h => by cases h) (fun _ => ds_nx ?_)
  · intro x hx
    simp only [List.cons_append, List.nil_append, List.mem_cons, List.not_mem_nil, or_false] at hx
    rcases hx with rfl | rfl | rfl | rfl
    · exact ⟨kn_Apart T, by show 8 < 16; omega⟩
    · exact ⟨kn_Clash T, by show 11 < 16; omega⟩
    · exact ⟨kn_Twice T, by show 9 < 16; omega⟩
    · exact ⟨kn_Crowded T, by show 5 < 16; omega⟩
  exact ds_ret (r := J (true && (true && true))) (de_and (de_vw (de_eqT (x := one) (y := one) (de_vw (de_xf (de_var rfl) T.Twice_x T.Twice_a_number rfl)) (de_var rfl) isd_p isd_J rfl)) fun _ =>
    de_and (de_vw (de_eqT (x := row) (y := row) (de_vw (de_xf (de_var rfl) T.Crowded_x T.Crowded_a_row rfl)) (de_var rfl) isd_p isd_J rfl)) fun _ => de_call (a := ()) da_nil True.intro) rfl
end
end U

set_option Elab.async false
set_option linter.all false
set_option maxRecDepth 100000
set_option maxHeartbeats 4000000
namespace U
open PySem PySem.Spec L2
open En (enc)
/-- law's: a list of at most 63 ints is handed in, True comes out -/
def spLaw (K : PySem.W.Frag) : Sp := fun vs H Q _ => ∃ (a : Addr) (ns : List Int), vs = [.ref a] ∧ SqL K H a (ns.map V.int) ∧ ns.length ≤ 63 ∧ ∀ H', Q (.bl true) H'
section
variable {Pg : Program} {w : World} {K : PySem.W.Frag} {mg : Str → Option Value} {base : Heap}
theorem ok_law0 (T : Txt K mg) : FnOk Pg w K mg base CX0 4 T.law T.law_d P_law (spP (A := List Int) (fun a => [.p (scr K a)]) (fun _ => True) fun _ => J true) := by
  have G_law_pot := ok_law_pot (Pg := Pg) (w := w) (base := base) T
  have G_law_right := ok_law_right (Pg := Pg) (w := w) (base := base) T
  refine Fun.pure T.law_F sc_law (fun _ => rfl) (fun cdv A outer s H E hr => ?_)
  have hu64 := u64 hr
  have hu65 := u65 hr
  have hu1 := u1 hr
  have nd := sc_law.nd
  refine ⟨_, (pss_one (ps_ret (pe_callB (allK K rfl rfl) (by rfl) T.n_all (by decide +kernel) (pa_cons (pe_lc rfl nd (pi_range1 (by rfl) T.n_range (pa_cons (pe_callB (call_max2 rfl) (by rfl) T.n_max (by decide +kernel) (pa_cons pe_int (pa_cons (pe_callB (call_min2 rfl) (by rfl) T.n_min (by decide +kernel) (pa_cons pe_int (pa_cons (pe_callB (lenK K rfl) (by rfl) T.n_len (by decide +kernel) (pa_cons (pv 0) pa_nil)) pa_nil))) pa_nil))) pa_nil)) (blkOk_by (own := [("k", 1)]) (N := N_law) (by kernel_rfl)) (fun _ _ _ _ _ => (pg_name (i := 1) nd rfl (Or.inl rfl))) (fun _ _ _ _ _ => pts_nil) (fun _ _ _ _ _ => (pe_call G_law_right (hr.mono (by decide)) (by rfl) T.law_right_g T.law_right_k T.law_right_b .nil pass0 (pa_cons (pe_call G_law_pot (hr.mono (by decide)) (by rfl) T.law_pot_g T.law_pot_k T.law_pot_b .nil pass0 (pa_cons (pv 0) (pa_cons (pv 1) pa_nil))) pa_nil)))) pa_nil)))), fun a hp => ?_⟩
  have hsz := sizeLine_eq
  obtain ⟨m, hm, hm4⟩ : ∃ m : Nat, (if (if (a.length : Int) < 4 then (a.length : Int) else 4) > 1 then (if (a.length : Int) < 4 then (a.length : Int) else 4) else 1) = (m : Int) ∧ m ≤ 4 := by
    refine ⟨(if (if (a.length : Int) < 4 then (a.length : Int) else 4) > 1 then (if (a.length : Int) < 4 then (a.length : Int) else 4) else 1).toNat, ?_, ?_⟩ <;> (repeat' split) <;> omega
  refine ds_ret (r := J (((List.range m).map fun _ => true).all id)) (de_all (de_vw (de_lcM (f := fun _ : Nat => true) (di_range1 (m := m) (da_cons (de_vw (de_cast (de_c2 (i := 1) (j := (if (a.length : Int) < 4 then (a.length : Int) else 4)) (de_vw de_int) (de_vw (de_c2 (i := 4) (j := (a.length : Int)) (de_vw de_int) (de_vw (de_lenScr (de_vw (de_varVL rfl)))) fun H Q q => ⟨_, _, rfl, q⟩)) fun H Q q => ⟨_, _, rfl, q⟩) (by rw [hm]; rfl))) da_nil) (by omega)).weak (fun x hx => gb_n) fun x hx => de_call (a := ()) (da_cons (de_vw (de_call (a := (a, x)) (da_cons (de_vw (de_varVL rfl)) (da_cons (de_vw (de_varL rfl)) da_nil)) ?_)) da_nil) True.intro))) ?_
  · have := List.mem_range.mp hx
    show x ≤ 63
    omega
  · have e : ((List.range m).map fun _ => true).all id = true := by simp
    show J (((List.range m).map fun _ => true).all id) = J true
    rw [e]
theorem ok_law (T : Txt K mg) : FnOk Pg w K mg base CX0 4 T.law T.law_d P_law (spLaw K) :=
  (ok_law0 T).imp fun vs H Q E ⟨a, ns, e, h, hl, q⟩ => ⟨H, ns, Same.refl _, by rw [e]; exact .cons (.p ⟨a, rfl, h⟩) .nil, True.intro, fun v G' H' x o => by
    have := Pv.one _ _ _ (VR_J (x := true) x.gh o.see)
    rw [this]; exact q H'⟩
end
end U

set_option Elab.async false
set_option linter.all false
set_option maxRecDepth 100000
set_option maxHeartbeats 4000000
namespace U
open PySem PySem.Spec L2
def xcB (K : PySem.W.Frag) (C : Addr) : Bool := xfB K C && ((PySem.W.clsIn K C).isSome && (decide (PySem.W.findIn K (.ref C) "__class__" = some (some (.builtin "object.__class__"))) && decide (PySem.W.mroIn K C (.type "object") = some true)))
theorem xcB_ok {K : PySem.W.Frag} {C : Addr} (h : xcB K C = true) : XcC K C := by
  simp only [xcB, Bool.and_eq_true, decide_eq_true_eq] at h
  exact ⟨xfB_ok h.1, h.2.1, h.2.2⟩
def kitRow (K : PySem.W.Frag) (C : Addr) (cs : List Addr) (bs : List Bool) : Bool := decide (PySem.W.kitOne K (.ref C) (.type "ValueError") = some true) && (cs.zip bs).all fun p => decide (PySem.W.kitOne K (.ref C) (.ref p.1) = some p.2)
theorem kitRow_v {K : PySem.W.Frag} {C : Addr} {cs : List Addr} {bs : List Bool} (h : kitRow K C cs bs = true) : PySem.W.kitOne K (.ref C) (.type "ValueError") = some true := of_decide_eq_true (Bool.and_eq_true_iff.mp h).1
theorem kitRow_at {K : PySem.W.Frag} {C D : Addr} {b : Bool} {cs : List Addr} {bs : List Bool} {i : Nat} (h : kitRow K C cs bs = true) (h1 : cs[i]? = some D) (h2 : bs[i]? = some b) : PySem.W.kitOne K (.ref C) (.ref D) = some b := by
  have h3 := List.all_eq_true.mp (Bool.and_eq_true_iff.mp h).2 (D, b) (List.mem_iff_getElem?.mpr ⟨i, List.getElem?_zip_eq_some.mpr ⟨h1, h2⟩⟩)
  exact of_decide_eq_true h3
theorem all_mk {l : PySem.W.OpenLaw} {w : World} {K : PySem.W.Frag} {h : Heap} {mg : Str → Option Value} {fa CNetError CNoNet CNoText CNoMove CHeld CFull CCrowded CNoSpot CMisfit CApart CTwice CNoOccurrence CClash CTooMany CNoPlace CNoRow CNoName f_NoMove_init f_Held_init f_Full_init f_Crowded_init f_Apart_init f_Twice_init f_Clash_init f_law_pot f_law_take f_law_number f_law_row f_law_kinds f_law_bare_right f_law_right f_law : Addr} (X : K.In h) (G : h.Ns mainGlobals mg) (hfa : mg "law" = some (.ref fa))
    {nm_NoMove q_NoMove : Str} {N_NoMove : Addr} {bs_NoMove bm_NoMove : List Value} {sn_NoMove : _} {sub_NoMove : _} {ab_NoMove : _} {col_NoMove : _} {dd_NoMove : _} {k0_NoMove k1_NoMove k2_NoMove k3_NoMove k5_NoMove : _} {nm_Held q_Held : Str} {N_Held : Addr} {bs_Held bm_Held : List Value} {sn_Held : _} {sub_Held : _} {ab_Held : _} {col_Held : _} {dd_Held : _} {k0_Held k1_Held k2_Held k3_Held k5_Held : _} {nm_Full q_Full : Str} {N_Full : Addr} {bs_Full bm_Full : List Value} {sn_Full : _} {sub_Full : _} {ab_Full : _} {col_Full : _} {dd_Full : _} {k0_Full k1_Full k2_Full k3_Full k5_Full : _} {nm_Crowded q_Crowded : Str} {N_Crowded : Addr} {bs_Crowded bm_Crowded : List Value} {sn_Crowded : _} {sub_Crowded : _} {ab_Crowded : _} {col_Crowded : _} {dd_Crowded : _} {k0_Crowded k1_Crowded k2_Crowded k3_Crowded k5_Crowded : _} {nm_Apart q_Apart : Str} {N_Apart : Addr} {bs_Apart bm_Apart : List Value} {sn_Apart : _} {sub_Apart : _} {ab_Apart : _} {col_Apart : _} {dd_Apart : _} {k0_Apart k1_Apart k2_Apart k3_Apart k5_Apart : _} {nm_Twice q_Twice : Str} {N_Twice : Addr} {bs_Twice bm_Twice : List Value} {sn_Twice : _} {sub_Twice : _} {ab_Twice : _} {col_Twice : _} {dd_Twice : _} {k0_Twice k1_Twice k2_Twice k3_Twice k5_Twice : _} {nm_Clash q_Clash : Str} {N_Clash : Addr} {bs_Clash bm_Clash : List Value} {sn_Clash : _} {sub_Clash : _} {ab_Clash : _} {col_Clash : _} {dd_Clash : _} {k0_Clash k1_Clash k2_Clash k3_Clash k5_Clash : _}
    {od_NoMove_init an_NoMove_init od_Held_init an_Held_init od_Full_init an_Full_init od_Crowded_init an_Crowded_init od_Apart_init an_Apart_init od_Twice_init an_Twice_init od_Clash_init an_Clash_init od_law_pot an_law_pot od_law_take an_law_take od_law_number an_law_number od_law_row an_law_row od_law_kinds an_law_kinds od_law_bare_right an_law_bare_right od_law_right an_law_right od_law an_law : Option Addr} {sl_NoMove_init sl_Held_init sl_Full_init sl_Crowded_init sl_Apart_init sl_Twice_init sl_Clash_init sl_law_pot sl_law_take sl_law_number sl_law_row sl_law_kinds sl_law_bare_right sl_law_right sl_law : Array (Option Value)} {oc_NoMove_init kV_NoMove_init dc_NoMove_init pm_NoMove_init cd_NoMove_init ct_NoMove_init oc_Held_init kV_Held_init dc_Held_init pm_Held_init cd_Held_init ct_Held_init oc_Full_init kV_Full_init dc_Full_init pm_Full_init cd_Full_init ct_Full_init oc_Crowded_init kV_Crowded_init dc_Crowded_init pm_Crowded_init cd_Crowded_init ct_Crowded_init oc_Apart_init kV_Apart_init dc_Apart_init pm_Apart_init cd_Apart_init ct_Apart_init oc_Twice_init kV_Twice_init dc_Twice_init pm_Twice_init cd_Twice_init ct_Twice_init oc_Clash_init kV_Clash_init dc_Clash_init pm_Clash_init cd_Clash_init ct_Clash_init oc_law_pot kV_law_pot dc_law_pot pm_law_pot cd_law_pot ct_law_pot oc_law_take kV_law_take dc_law_take pm_law_take cd_law_take ct_law_take oc_law_number kV_law_number dc_law_number pm_law_number cd_law_number ct_law_number oc_law_row kV_law_row dc_law_row pm_law_row cd_law_row ct_law_row oc_law_kinds kV_law_kinds dc_law_kinds pm_law_kinds cd_law_kinds ct_law_kinds oc_law_bare_right kV_law_bare_right dc_law_bare_right pm_law_bare_right cd_law_bare_right ct_law_bare_right oc_law_right kV_law_right dc_law_right pm_law_right cd_law_right ct_law_right oc_law kV_law dc_law pm_law cd_law ct_law : Value}
    (z_ValueError : PySem.W.nsIn K mainGlobals "ValueError" = some none)
    (z_abs : PySem.W.nsIn K mainGlobals "abs" = some none)
    (z_all : PySem.W.nsIn K mainGlobals "all" = some none)
    (z_divmod : PySem.W.nsIn K mainGlobals "divmod" = some none)
    (z_isinstance : PySem.W.nsIn K mainGlobals "isinstance" = some none)
    (z_len : PySem.W.nsIn K mainGlobals "len" = some none)
    (z_list : PySem.W.nsIn K mainGlobals "list" = some none)
    (z_max : PySem.W.nsIn K mainGlobals "max" = some none)
    (z_min : PySem.W.nsIn K mainGlobals "min" = some none)
    (z_range : PySem.W.nsIn K mainGlobals "range" = some none)
    (z_sorted : PySem.W.nsIn K mainGlobals "sorted" = some none)
    (a_NetError : PySem.W.nsIn K mainGlobals "NetError" = some (some (.ref CNetError)))
    (a_NoNet : PySem.W.nsIn K mainGlobals "NoNet" = some (some (.ref CNoNet)))
    (a_NoText : PySem.W.nsIn K mainGlobals "NoText" = some (some (.ref CNoText)))
    (a_NoMove : PySem.W.nsIn K mainGlobals "NoMove" = some (some (.ref CNoMove)))
    (a_Held : PySem.W.nsIn K mainGlobals "Held" = some (some (.ref CHeld)))
    (a_Full : PySem.W.nsIn K mainGlobals "Full" = some (some (.ref CFull)))
    (a_Crowded : PySem.W.nsIn K mainGlobals "Crowded" = some (some (.ref CCrowded)))
    (a_NoSpot : PySem.W.nsIn K mainGlobals "NoSpot" = some (some (.ref CNoSpot)))
    (a_Misfit : PySem.W.nsIn K mainGlobals "Misfit" = some (some (.ref CMisfit)))
    (a_Apart : PySem.W.nsIn K mainGlobals "Apart" = some (some (.ref CApart)))
    (a_Twice : PySem.W.nsIn K mainGlobals "Twice" = some (some (.ref CTwice)))
    (a_NoOccurrence : PySem.W.nsIn K mainGlobals "NoOccurrence" = some (some (.ref CNoOccurrence)))
    (a_Clash : PySem.W.nsIn K mainGlobals "Clash" = some (some (.ref CClash)))
    (a_TooMany : PySem.W.nsIn K mainGlobals "TooMany" = some (some (.ref CTooMany)))
    (a_NoPlace : PySem.W.nsIn K mainGlobals "NoPlace" = some (some (.ref CNoPlace)))
    (a_NoRow : PySem.W.nsIn K mainGlobals "NoRow" = some (some (.ref CNoRow)))
    (a_NoName : PySem.W.nsIn K mainGlobals "NoName" = some (some (.ref CNoName)))
    (g1 : PySem.W.specialIn K (.builtin "object.__class__") "__get__" = some (some (.builtin "getset_descriptor.__get__")))
    (g2 : PySem.W.takesIn K (.builtin "object.__class__") = some true)
    (k_NetError : PySem.W.keepIn K (.ref CNetError) = true)
    (x_NetError : xcB K CNetError = true)
    (r_NetError : kitRow K CNetError [CNetError, CNoNet, CNoText, CNoMove, CHeld, CFull, CCrowded, CNoSpot, CMisfit, CApart, CTwice, CNoOccurrence, CClash, CTooMany, CNoPlace, CNoRow, CNoName] [true, false, false, false, false, false, false, false, false, false, false, false, false, false, false, false, false] = true)
    (q_NetError : PySem.W.excIn K CNetError excB "ValueError.__new__" = true)
    (k_NoNet : PySem.W.keepIn K (.ref CNoNet) = true)
    (x_NoNet : xcB K CNoNet = true)
    (r_NoNet : kitRow K CNoNet [CNetError, CNoNet, CNoText, CNoMove, CHeld, CFull, CCrowded, CNoSpot, CMisfit, CApart, CTwice, CNoOccurrence, CClash, CTooMany, CNoPlace, CNoRow, CNoName] [true, true, false, false, false, false, false, false, false, false, false, false, false, false, false, false, false] = true)
    (q_NoNet : PySem.W.excIn K CNoNet excB "ValueError.__new__" = true)
    (k_NoText : PySem.W.keepIn K (.ref CNoText) = true)
    (x_NoText : xcB K CNoText = true)
    (r_NoText : kitRow K CNoText [CNetError, CNoNet, CNoText, CNoMove, CHeld, CFull, CCrowded, CNoSpot, CMisfit, CApart, CTwice, CNoOccurrence, CClash, CTooMany, CNoPlace, CNoRow, CNoName] [true, false, true, false, false, false, false, false, false, false, false, false, false, false, false, false, false] = true)
    (q_NoText : PySem.W.excIn K CNoText excB "ValueError.__new__" = true)
    (k_NoMove : PySem.W.keepIn K (.ref CNoMove) = true)
    (x_NoMove : xcB K CNoMove = true)
    (r_NoMove : kitRow K CNoMove [CNetError, CNoNet, CNoText, CNoMove, CHeld, CFull, CCrowded, CNoSpot, CMisfit, CApart, CTwice, CNoOccurrence, CClash, CTooMany, CNoPlace, CNoRow, CNoName] [true, false, false, true, false, false, false, false, false, false, false, false, false, false, false, false, false] = true)
    (i_NoMove : PySem.W.findIn K (.ref CNoMove) "__init__" = some (some (.ref f_NoMove_init)))
    (t_NoMove : PySem.W.typeIn K (.ref f_NoMove_init) = some (.type "function"))
    (l_NoMove : K.lookup CNoMove = some (excClassObj nm_NoMove q_NoMove CNoMove N_NoMove bs_NoMove bm_NoMove true sn_NoMove sub_NoMove ab_NoMove col_NoMove dd_NoMove k0_NoMove k1_NoMove k2_NoMove k3_NoMove k5_NoMove "ValueError.__new__"))
    (m_NoMove : PySem.HandSPX.refsVE bm_NoMove = true)
    (s_NoMove : PySem.W.findIn K (.ref CNoMove) "__setattr__" = some (some (.builtin "object.__setattr__")))
    (y_NoMove : PySem.W.typeIn K (.ref CNoMove) = some (.type "type"))
    (k_Held : PySem.W.keepIn K (.ref CHeld) = true)
    (x_Held : xcB K CHeld = true)
    (r_Held : kitRow K CHeld [CNetError, CNoNet, CNoText, CNoMove, CHeld, CFull, CCrowded, CNoSpot, CMisfit, CApart, CTwice, CNoOccurrence, CClash, CTooMany, CNoPlace, CNoRow, CNoName] [true, false, false, false, true, false, false, false, false, false, false, false, false, false, false, false, false] = true)
    (i_Held : PySem.W.findIn K (.ref CHeld) "__init__" = some (some (.ref f_Held_init)))
    (t_Held : PySem.W.typeIn K (.ref f_Held_init) = some (.type "function"))
    (l_Held : K.lookup CHeld = some (excClassObj nm_Held q_Held CHeld N_Held bs_Held bm_Held true sn_Held sub_Held ab_Held col_Held dd_Held k0_Held k1_Held k2_Held k3_Held k5_Held "ValueError.__new__"))
    (m_Held : PySem.HandSPX.refsVE bm_Held = true)
    (s_Held : PySem.W.findIn K (.ref CHeld) "__setattr__" = some (some (.builtin "object.__setattr__")))
    (y_Held : PySem.W.typeIn K (.ref CHeld) = some (.type "type"))
    (k_Full : PySem.W.keepIn K (.ref CFull) = true)
    (x_Full : xcB K CFull = true)
    (r_Full : kitRow K CFull [CNetError, CNoNet, CNoText, CNoMove, CHeld, CFull, CCrowded, CNoSpot, CMisfit, CApart, CTwice, CNoOccurrence, CClash, CTooMany, CNoPlace, CNoRow, CNoName] [true, false, false, false, false, true, false, false, false, false, false, false, false, false, false, false, false] = true)
    (i_Full : PySem.W.findIn K (.ref CFull) "__init__" = some (some (.ref f_Full_init)))
    (t_Full : PySem.W.typeIn K (.ref f_Full_init) = some (.type "function"))
    (l_Full : K.lookup CFull = some (excClassObj nm_Full q_Full CFull N_Full bs_Full bm_Full true sn_Full sub_Full ab_Full col_Full dd_Full k0_Full k1_Full k2_Full k3_Full k5_Full "ValueError.__new__"))
    (m_Full : PySem.HandSPX.refsVE bm_Full = true)
    (s_Full : PySem.W.findIn K (.ref CFull) "__setattr__" = some (some (.builtin "object.__setattr__")))
    (y_Full : PySem.W.typeIn K (.ref CFull) = some (.type "type"))
    (k_Crowded : PySem.W.keepIn K (.ref CCrowded) = true)
    (x_Crowded : xcB K CCrowded = true)
    (r_Crowded : kitRow K CCrowded [CNetError, CNoNet, CNoText, CNoMove, CHeld, CFull, CCrowded, CNoSpot, CMisfit, CApart, CTwice, CNoOccurrence, CClash, CTooMany, CNoPlace, CNoRow, CNoName] [true, false, false, false, false, false, true, false, false, false, false, false, false, false, false, false, false] = true)
    (i_Crowded : PySem.W.findIn K (.ref CCrowded) "__init__" = some (some (.ref f_Crowded_init)))
    (t_Crowded : PySem.W.typeIn K (.ref f_Crowded_init) = some (.type "function"))
    (l_Crowded : K.lookup CCrowded = some (excClassObj nm_Crowded q_Crowded CCrowded N_Crowded bs_Crowded bm_Crowded true sn_Crowded sub_Crowded ab_Crowded col_Crowded dd_Crowded k0_Crowded k1_Crowded k2_Crowded k3_Crowded k5_Crowded "ValueError.__new__"))
    (m_Crowded : PySem.HandSPX.refsVE bm_Crowded = true)
    (s_Crowded : PySem.W.findIn K (.ref CCrowded) "__setattr__" = some (some (.builtin "object.__setattr__")))
    (y_Crowded : PySem.W.typeIn K (.ref CCrowded) = some (.type "type"))
    (k_NoSpot : PySem.W.keepIn K (.ref CNoSpot) = true)
    (x_NoSpot : xcB K CNoSpot = true)
    (r_NoSpot : kitRow K CNoSpot [CNetError, CNoNet, CNoText, CNoMove, CHeld, CFull, CCrowded, CNoSpot, CMisfit, CApart, CTwice, CNoOccurrence, CClash, CTooMany, CNoPlace, CNoRow, CNoName] [true, false, false, false, false, false, false, true, false, false, false, false, false, false, false, false, false] = true)
    (q_NoSpot : PySem.W.excIn K CNoSpot excB "ValueError.__new__" = true)
    (k_Misfit : PySem.W.keepIn K (.ref CMisfit) = true)
    (x_Misfit : xcB K CMisfit = true)
    (r_Misfit : kitRow K CMisfit [CNetError, CNoNet, CNoText, CNoMove, CHeld, CFull, CCrowded, CNoSpot, CMisfit, CApart, CTwice, CNoOccurrence, CClash, CTooMany, CNoPlace, CNoRow, CNoName] [true, false, false, false, false, false, false, false, true, false, false, false, false, false, false, false, false] = true)
    (q_Misfit : PySem.W.excIn K CMisfit excB "ValueError.__new__" = true)
    (k_Apart : PySem.W.keepIn K (.ref CApart) = true)
    (x_Apart : xcB K CApart = true)
    (r_Apart : kitRow K CApart [CNetError, CNoNet, CNoText, CNoMove, CHeld, CFull, CCrowded, CNoSpot, CMisfit, CApart, CTwice, CNoOccurrence, CClash, CTooMany, CNoPlace, CNoRow, CNoName] [true, false, false, false, false, false, false, false, false, true, false, false, false, false, false, false, false] = true)
    (i_Apart : PySem.W.findIn K (.ref CApart) "__init__" = some (some (.ref f_Apart_init)))
    (t_Apart : PySem.W.typeIn K (.ref f_Apart_init) = some (.type "function"))
    (l_Apart : K.lookup CApart = some (excClassObj nm_Apart q_Apart CApart N_Apart bs_Apart bm_Apart true sn_Apart sub_Apart ab_Apart col_Apart dd_Apart k0_Apart k1_Apart k2_Apart k3_Apart k5_Apart "ValueError.__new__"))
    (m_Apart : PySem.HandSPX.refsVE bm_Apart = true)
    (s_Apart : PySem.W.findIn K (.ref CApart) "__setattr__" = some (some (.builtin "object.__setattr__")))
    (y_Apart : PySem.W.typeIn K (.ref CApart) = some (.type "type"))
    (k_Twice : PySem.W.keepIn K (.ref CTwice) = true)
    (x_Twice : xcB K CTwice = true)
    (r_Twice : kitRow K CTwice [CNetError, CNoNet, CNoText, CNoMove, CHeld, CFull, CCrowded, CNoSpot, CMisfit, CApart, CTwice, CNoOccurrence, CClash, CTooMany, CNoPlace, CNoRow, CNoName] [true, false, false, false, false, false, false, false, false, false, true, false, false, false, false, false, false] = true)
    (i_Twice : PySem.W.findIn K (.ref CTwice) "__init__" = some (some (.ref f_Twice_init)))
    (t_Twice : PySem.W.typeIn K (.ref f_Twice_init) = some (.type "function"))
    (l_Twice : K.lookup CTwice = some (excClassObj nm_Twice q_Twice CTwice N_Twice bs_Twice bm_Twice true sn_Twice sub_Twice ab_Twice col_Twice dd_Twice k0_Twice k1_Twice k2_Twice k3_Twice k5_Twice "ValueError.__new__"))
    (m_Twice : PySem.HandSPX.refsVE bm_Twice = true)
    (s_Twice : PySem.W.findIn K (.ref CTwice) "__setattr__" = some (some (.builtin "object.__setattr__")))
    (y_Twice : PySem.W.typeIn K (.ref CTwice) = some (.type "type"))
    (k_NoOccurrence : PySem.W.keepIn K (.ref CNoOccurrence) = true)
    (x_NoOccurrence : xcB K CNoOccurrence = true)
    (r_NoOccurrence : kitRow K CNoOccurrence [CNetError, CNoNet, CNoText, CNoMove, CHeld, CFull, CCrowded, CNoSpot, CMisfit, CApart, CTwice, CNoOccurrence, CClash, CTooMany, CNoPlace, CNoRow, CNoName] [true, false, false, false, false, false, false, false, false, false, false, true, false, false, false, false, false] = true)
    (q_NoOccurrence : PySem.W.excIn K CNoOccurrence excB "ValueError.__new__" = true)
    (k_Clash : PySem.W.keepIn K (.ref CClash) = true)
    (x_Clash : xcB K CClash = true)
    (r_Clash : kitRow K CClash [CNetError, CNoNet, CNoText, CNoMove, CHeld, CFull, CCrowded, CNoSpot, CMisfit, CApart, CTwice, CNoOccurrence, CClash, CTooMany, CNoPlace, CNoRow, CNoName] [true, false, false, false, false, false, false, false, false, false, false, false, true, false, false, false, false] = true)
    (i_Clash : PySem.W.findIn K (.ref CClash) "__init__" = some (some (.ref f_Clash_init)))
    (t_Clash : PySem.W.typeIn K (.ref f_Clash_init) = some (.type "function"))
    (l_Clash : K.lookup CClash = some (excClassObj nm_Clash q_Clash CClash N_Clash bs_Clash bm_Clash true sn_Clash sub_Clash ab_Clash col_Clash dd_Clash k0_Clash k1_Clash k2_Clash k3_Clash k5_Clash "ValueError.__new__"))
    (m_Clash : PySem.HandSPX.refsVE bm_Clash = true)
    (s_Clash : PySem.W.findIn K (.ref CClash) "__setattr__" = some (some (.builtin "object.__setattr__")))
    (y_Clash : PySem.W.typeIn K (.ref CClash) = some (.type "type"))
    (k_TooMany : PySem.W.keepIn K (.ref CTooMany) = true)
    (x_TooMany : xcB K CTooMany = true)
    (r_TooMany : kitRow K CTooMany [CNetError, CNoNet, CNoText, CNoMove, CHeld, CFull, CCrowded, CNoSpot, CMisfit, CApart, CTwice, CNoOccurrence, CClash, CTooMany, CNoPlace, CNoRow, CNoName] [true, false, false, false, false, false, false, false, false, false, false, false, false, true, false, false, false] = true)
    (q_TooMany : PySem.W.excIn K CTooMany excB "ValueError.__new__" = true)
    (k_NoPlace : PySem.W.keepIn K (.ref CNoPlace) = true)
    (x_NoPlace : xcB K CNoPlace = true)
    (r_NoPlace : kitRow K CNoPlace [CNetError, CNoNet, CNoText, CNoMove, CHeld, CFull, CCrowded, CNoSpot, CMisfit, CApart, CTwice, CNoOccurrence, CClash, CTooMany, CNoPlace, CNoRow, CNoName] [true, false, false, false, false, false, false, false, false, false, false, false, false, false, true, false, false] = true)
    (q_NoPlace : PySem.W.excIn K CNoPlace excB "ValueError.__new__" = true)
    (k_NoRow : PySem.W.keepIn K (.ref CNoRow) = true)
    (x_NoRow : xcB K CNoRow = true)
    (r_NoRow : kitRow K CNoRow [CNetError, CNoNet, CNoText, CNoMove, CHeld, CFull, CCrowded, CNoSpot, CMisfit, CApart, CTwice, CNoOccurrence, CClash, CTooMany, CNoPlace, CNoRow, CNoName] [true, false, false, false, false, false, false, false, false, false, false, false, false, false, false, true, false] = true)
    (q_NoRow : PySem.W.excIn K CNoRow excB "ValueError.__new__" = true)
    (k_NoName : PySem.W.keepIn K (.ref CNoName) = true)
    (x_NoName : xcB K CNoName = true)
    (r_NoName : kitRow K CNoName [CNetError, CNoNet, CNoText, CNoMove, CHeld, CFull, CCrowded, CNoSpot, CMisfit, CApart, CTwice, CNoOccurrence, CClash, CTooMany, CNoPlace, CNoRow, CNoName] [true, false, false, false, false, false, false, false, false, false, false, false, false, false, false, false, true] = true)
    (q_NoName : PySem.W.excIn K CNoName excB "ValueError.__new__" = true)
    (at_NoMove_at : PySem.W.findIn K (.ref CNoMove) "at" = some none)
    (at_Held_at : PySem.W.findIn K (.ref CHeld) "at" = some none)
    (at_Full_at : PySem.W.findIn K (.ref CFull) "at" = some none)
    (at_Crowded_row : PySem.W.findIn K (.ref CCrowded) "row" = some none)
    (at_Apart_one : PySem.W.findIn K (.ref CApart) "one" = some none)
    (at_Apart_other : PySem.W.findIn K (.ref CApart) "other" = some none)
    (at_Twice_number : PySem.W.findIn K (.ref CTwice) "number" = some none)
    (at_Clash_one : PySem.W.findIn K (.ref CClash) "one" = some none)
    (at_Clash_other : PySem.W.findIn K (.ref CClash) "other" = some none)
    (L_NoMove_init : K.lookup f_NoMove_init = some ⟨oc_NoMove_init, od_NoMove_init, .func (PySem.W.fnOf "__init__" "NoMove.__init__" (defArgs s_NoMove_init) (defBody s_NoMove_init) (defScope s_NoMove_init) .none kV_NoMove_init dc_NoMove_init pm_NoMove_init an_NoMove_init cd_NoMove_init ct_NoMove_init), sl_NoMove_init⟩)
    (d_NoMove_init : PySem.W.codeIn K cd_NoMove_init "NoMove.__init__" = true)
    (K_NoMove_init : PySem.W.keepIn K (.ref f_NoMove_init) = true)
    (L_Held_init : K.lookup f_Held_init = some ⟨oc_Held_init, od_Held_init, .func (PySem.W.fnOf "__init__" "Held.__init__" (defArgs s_Held_init) (defBody s_Held_init) (defScope s_Held_init) .none kV_Held_init dc_Held_init pm_Held_init an_Held_init cd_Held_init ct_Held_init), sl_Held_init⟩)
    (d_Held_init : PySem.W.codeIn K cd_Held_init "Held.__init__" = true)
    (K_Held_init : PySem.W.keepIn K (.ref f_Held_init) = true)
    (L_Full_init : K.lookup f_Full_init = some ⟨oc_Full_init, od_Full_init, .func (PySem.W.fnOf "__init__" "Full.__init__" (defArgs s_Full_init) (defBody s_Full_init) (defScope s_Full_init) .none kV_Full_init dc_Full_init pm_Full_init an_Full_init cd_Full_init ct_Full_init), sl_Full_init⟩)
    (d_Full_init : PySem.W.codeIn K cd_Full_init "Full.__init__" = true)
    (K_Full_init : PySem.W.keepIn K (.ref f_Full_init) = true)
    (L_Crowded_init : K.lookup f_Crowded_init = some ⟨oc_Crowded_init, od_Crowded_init, .func (PySem.W.fnOf "__init__" "Crowded.__init__" (defArgs s_Crowded_init) (defBody s_Crowded_init) (defScope s_Crowded_init) .none kV_Crowded_init dc_Crowded_init pm_Crowded_init an_Crowded_init cd_Crowded_init ct_Crowded_init), sl_Crowded_init⟩)
    (d_Crowded_init : PySem.W.codeIn K cd_Crowded_init "Crowded.__init__" = true)
    (K_Crowded_init : PySem.W.keepIn K (.ref f_Crowded_init) = true)
    (L_Apart_init : K.lookup f_Apart_init = some ⟨oc_Apart_init, od_Apart_init, .func (PySem.W.fnOf "__init__" "Apart.__init__" (defArgs s_Apart_init) (defBody s_Apart_init) (defScope s_Apart_init) .none kV_Apart_init dc_Apart_init pm_Apart_init an_Apart_init cd_Apart_init ct_Apart_init), sl_Apart_init⟩)
    (d_Apart_init : PySem.W.codeIn K cd_Apart_init "Apart.__init__" = true)
    (K_Apart_init : PySem.W.keepIn K (.ref f_Apart_init) = true)
    (L_Twice_init : K.lookup f_Twice_init = some ⟨oc_Twice_init, od_Twice_init, .func (PySem.W.fnOf "__init__" "Twice.__init__" (defArgs s_Twice_init) (defBody s_Twice_init) (defScope s_Twice_init) .none kV_Twice_init dc_Twice_init pm_Twice_init an_Twice_init cd_Twice_init ct_Twice_init), sl_Twice_init⟩)
    (d_Twice_init : PySem.W.codeIn K cd_Twice_init "Twice.__init__" = true)
    (K_Twice_init : PySem.W.keepIn K (.ref f_Twice_init) = true)
    (L_Clash_init : K.lookup f_Clash_init = some ⟨oc_Clash_init, od_Clash_init, .func (PySem.W.fnOf "__init__" "Clash.__init__" (defArgs s_Clash_init) (defBody s_Clash_init) (defScope s_Clash_init) .none kV_Clash_init dc_Clash_init pm_Clash_init an_Clash_init cd_Clash_init ct_Clash_init), sl_Clash_init⟩)
    (d_Clash_init : PySem.W.codeIn K cd_Clash_init "Clash.__init__" = true)
    (K_Clash_init : PySem.W.keepIn K (.ref f_Clash_init) = true)
    (b_law_pot : PySem.W.nsIn K mainGlobals "_law_pot" = some (some (.ref f_law_pot)))
    (L_law_pot : K.lookup f_law_pot = some ⟨oc_law_pot, od_law_pot, .func (PySem.W.fnOf "_law_pot" "_law_pot" (defArgs s_law_pot) (defBody s_law_pot) (defScope s_law_pot) .none kV_law_pot dc_law_pot pm_law_pot an_law_pot cd_law_pot ct_law_pot), sl_law_pot⟩)
    (d_law_pot : PySem.W.codeIn K cd_law_pot "_law_pot" = true)
    (K_law_pot : PySem.W.keepIn K (.ref f_law_pot) = true)
    (b_law_take : PySem.W.nsIn K mainGlobals "_law_take" = some (some (.ref f_law_take)))
    (L_law_take : K.lookup f_law_take = some ⟨oc_law_take, od_law_take, .func (PySem.W.fnOf "_law_take" "_law_take" (defArgs s_law_take) (defBody s_law_take) (defScope s_law_take) .none kV_law_take dc_law_take pm_law_take an_law_take cd_law_take ct_law_take), sl_law_take⟩)
    (d_law_take : PySem.W.codeIn K cd_law_take "_law_take" = true)
    (K_law_take : PySem.W.keepIn K (.ref f_law_take) = true)
    (b_law_number : PySem.W.nsIn K mainGlobals "_law_number" = some (some (.ref f_law_number)))
    (L_law_number : K.lookup f_law_number = some ⟨oc_law_number, od_law_number, .func (PySem.W.fnOf "_law_number" "_law_number" (defArgs s_law_number) (defBody s_law_number) (defScope s_law_number) .none kV_law_number dc_law_number pm_law_number an_law_number cd_law_number ct_law_number), sl_law_number⟩)
    (d_law_number : PySem.W.codeIn K cd_law_number "_law_number" = true)
    (K_law_number : PySem.W.keepIn K (.ref f_law_number) = true)
    (b_law_row : PySem.W.nsIn K mainGlobals "_law_row" = some (some (.ref f_law_row)))
    (L_law_row : K.lookup f_law_row = some ⟨oc_law_row, od_law_row, .func (PySem.W.fnOf "_law_row" "_law_row" (defArgs s_law_row) (defBody s_law_row) (defScope s_law_row) .none kV_law_row dc_law_row pm_law_row an_law_row cd_law_row ct_law_row), sl_law_row⟩)
    (d_law_row : PySem.W.codeIn K cd_law_row "_law_row" = true)
    (K_law_row : PySem.W.keepIn K (.ref f_law_row) = true)
    (b_law_kinds : PySem.W.nsIn K mainGlobals "_law_kinds" = some (some (.ref f_law_kinds)))
    (L_law_kinds : K.lookup f_law_kinds = some ⟨oc_law_kinds, od_law_kinds, .func (PySem.W.fnOf "_law_kinds" "_law_kinds" (defArgs s_law_kinds) (defBody s_law_kinds) (defScope s_law_kinds) .none kV_law_kinds dc_law_kinds pm_law_kinds an_law_kinds cd_law_kinds ct_law_kinds), sl_law_kinds⟩)
    (d_law_kinds : PySem.W.codeIn K cd_law_kinds "_law_kinds" = true)
    (K_law_kinds : PySem.W.keepIn K (.ref f_law_kinds) = true)
    (b_law_bare_right : PySem.W.nsIn K mainGlobals "_law_bare_right" = some (some (.ref f_law_bare_right)))
    (L_law_bare_right : K.lookup f_law_bare_right = some ⟨oc_law_bare_right, od_law_bare_right, .func (PySem.W.fnOf "_law_bare_right" "_law_bare_right" (defArgs s_law_bare_right) (defBody s_law_bare_right) (defScope s_law_bare_right) .none kV_law_bare_right dc_law_bare_right pm_law_bare_right an_law_bare_right cd_law_bare_right ct_law_bare_right), sl_law_bare_right⟩)
    (d_law_bare_right : PySem.W.codeIn K cd_law_bare_right "_law_bare_right" = true)
    (K_law_bare_right : PySem.W.keepIn K (.ref f_law_bare_right) = true)
    (b_law_right : PySem.W.nsIn K mainGlobals "_law_right" = some (some (.ref f_law_right)))
    (L_law_right : K.lookup f_law_right = some ⟨oc_law_right, od_law_right, .func (PySem.W.fnOf "_law_right" "_law_right" (defArgs s_law_right) (defBody s_law_right) (defScope s_law_right) .none kV_law_right dc_law_right pm_law_right an_law_right cd_law_right ct_law_right), sl_law_right⟩)
    (d_law_right : PySem.W.codeIn K cd_law_right "_law_right" = true)
    (K_law_right : PySem.W.keepIn K (.ref f_law_right) = true)
    (b_law : PySem.W.nsIn K mainGlobals "law" = some (some (.ref f_law)))
    (L_law : K.lookup f_law = some ⟨oc_law, od_law, .func (PySem.W.fnOf "law" "law" (defArgs s_law) (defBody s_law) (defScope s_law) .none kV_law dc_law pm_law an_law cd_law ct_law), sl_law⟩)
    (d_law : PySem.W.codeIn K cd_law "law" = true)
    (K_law : PySem.W.keepIn K (.ref f_law) = true) :
    ∃ fd : FuncData, (∀ (s : Shared) (v : Value), BindsTo s fd ⟨[v], []⟩ [("script", v)]) ∧ ∀ base : Heap, K.In base → base.Ns mainGlobals mg → FnOk l.prog w K mg base CX0 4 fa fd ["script"] (spLaw K) := by
  have e := hfa.symm.trans (PySem.W.mg_of X G b_law)
  cases e
  have F_NoMove_init := fun_mk (st := s_NoMove_init) L_NoMove_init d_NoMove_init K_NoMove_init
  have B_NoMove_init := F_NoMove_init.binds (ps := P_NoMove_init) fun _ _ _ _ _ _ us hl => match us, hl with | [_, _], _ => rfl
  have F_Held_init := fun_mk (st := s_Held_init) L_Held_init d_Held_init K_Held_init
  have B_Held_init := F_Held_init.binds (ps := P_Held_init) fun _ _ _ _ _ _ us hl => match us, hl with | [_, _], _ => rfl
  have F_Full_init := fun_mk (st := s_Full_init) L_Full_init d_Full_init K_Full_init
  have B_Full_init := F_Full_init.binds (ps := P_Full_init) fun _ _ _ _ _ _ us hl => match us, hl with | [_, _], _ => rfl
  have F_Crowded_init := fun_mk (st := s_Crowded_init) L_Crowded_init d_Crowded_init K_Crowded_init
  have B_Crowded_init := F_Crowded_init.binds (ps := P_Crowded_init) fun _ _ _ _ _ _ us hl => match us, hl with | [_, _], _ => rfl
  have F_Apart_init := fun_mk (st := s_Apart_init) L_Apart_init d_Apart_init K_Apart_init
  have B_Apart_init := F_Apart_init.binds (ps := P_Apart_init) fun _ _ _ _ _ _ us hl => match us, hl with | [_, _, _], _ => rfl
  have F_Twice_init := fun_mk (st := s_Twice_init) L_Twice_init d_Twice_init K_Twice_init
  have B_Twice_init := F_Twice_init.binds (ps := P_Twice_init) fun _ _ _ _ _ _ us hl => match us, hl with | [_, _], _ => rfl
  have F_Clash_init := fun_mk (st := s_Clash_init) L_Clash_init d_Clash_init K_Clash_init
  have B_Clash_init := F_Clash_init.binds (ps := P_Clash_init) fun _ _ _ _ _ _ us hl => match us, hl with | [_, _, _], _ => rfl
  have F_law_pot := fun_mk (st := s_law_pot) L_law_pot d_law_pot K_law_pot
  have B_law_pot := F_law_pot.binds (ps := P_law_pot) fun _ _ _ _ _ _ us hl => match us, hl with | [_, _], _ => rfl
  have F_law_take := fun_mk (st := s_law_take) L_law_take d_law_take K_law_take
  have B_law_take := F_law_take.binds (ps := P_law_take) fun _ _ _ _ _ _ us hl => match us, hl with | [_, _], _ => rfl
  have F_law_number := fun_mk (st := s_law_number) L_law_number d_law_number K_law_number
  have B_law_number := F_law_number.binds (ps := P_law_number) fun _ _ _ _ _ _ us hl => match us, hl with | [_], _ => rfl
  have F_law_row := fun_mk (st := s_law_row) L_law_row d_law_row K_law_row
  have B_law_row := F_law_row.binds (ps := P_law_row) fun _ _ _ _ _ _ us hl => match us, hl with | [_], _ => rfl
  have F_law_kinds := fun_mk (st := s_law_kinds) L_law_kinds d_law_kinds K_law_kinds
  have B_law_kinds := F_law_kinds.binds (ps := P_law_kinds) fun _ _ _ _ _ _ us hl => match us, hl with | [_], _ => rfl
  have F_law_bare_right := fun_mk (st := s_law_bare_right) L_law_bare_right d_law_bare_right K_law_bare_right
  have B_law_bare_right := F_law_bare_right.binds (ps := P_law_bare_right) fun _ _ _ _ _ _ us hl => match us, hl with | [], _ => rfl
  have F_law_right := fun_mk (st := s_law_right) L_law_right d_law_right K_law_right
  have B_law_right := F_law_right.binds (ps := P_law_right) fun _ _ _ _ _ _ us hl => match us, hl with | [_], _ => rfl
  have F_law := fun_mk (st := s_law) L_law d_law K_law
  have B_law := F_law.binds (ps := P_law) fun _ _ _ _ _ _ us hl => match us, hl with | [_], _ => rfl
  let T : Txt K mg := {
    n_ValueError := PySem.W.mg_none_of X G z_ValueError,
    n_abs := PySem.W.mg_none_of X G z_abs,
    n_all := PySem.W.mg_none_of X G z_all,
    n_divmod := PySem.W.mg_none_of X G z_divmod,
    n_isinstance := PySem.W.mg_none_of X G z_isinstance,
    n_len := PySem.W.mg_none_of X G z_len,
    n_list := PySem.W.mg_none_of X G z_list,
    n_max := PySem.W.mg_none_of X G z_max,
    n_min := PySem.W.mg_none_of X G z_min,
    n_range := PySem.W.mg_none_of X G z_range,
    n_sorted := PySem.W.mg_none_of X G z_sorted,
    c_NetError := CNetError,
    NetError_g := PySem.W.mg_of X G a_NetError,
    c_NoNet := CNoNet,
    NoNet_g := PySem.W.mg_of X G a_NoNet,
    c_NoText := CNoText,
    NoText_g := PySem.W.mg_of X G a_NoText,
    c_NoMove := CNoMove,
    NoMove_g := PySem.W.mg_of X G a_NoMove,
    c_Held := CHeld,
    Held_g := PySem.W.mg_of X G a_Held,
    c_Full := CFull,
    Full_g := PySem.W.mg_of X G a_Full,
    c_Crowded := CCrowded,
    Crowded_g := PySem.W.mg_of X G a_Crowded,
    c_NoSpot := CNoSpot,
    NoSpot_g := PySem.W.mg_of X G a_NoSpot,
    c_Misfit := CMisfit,
    Misfit_g := PySem.W.mg_of X G a_Misfit,
    c_Apart := CApart,
    Apart_g := PySem.W.mg_of X G a_Apart,
    c_Twice := CTwice,
    Twice_g := PySem.W.mg_of X G a_Twice,
    c_NoOccurrence := CNoOccurrence,
    NoOccurrence_g := PySem.W.mg_of X G a_NoOccurrence,
    c_Clash := CClash,
    Clash_g := PySem.W.mg_of X G a_Clash,
    c_TooMany := CTooMany,
    TooMany_g := PySem.W.mg_of X G a_TooMany,
    c_NoPlace := CNoPlace,
    NoPlace_g := PySem.W.mg_of X G a_NoPlace,
    c_NoRow := CNoRow,
    NoRow_g := PySem.W.mg_of X G a_NoRow,
    c_NoName := CNoName,
    NoName_g := PySem.W.mg_of X G a_NoName,
    xg := ⟨g1, g2⟩,
    NetError_k := k_NetError,
    NetError_x := xcB_ok x_NetError,
    NetError_v := (kitRow_v r_NetError),
    NetError_is_NetError := (kitRow_at (D := CNetError) (i := 0) r_NetError rfl rfl),
    NetError_is_NoNet := (kitRow_at (D := CNoNet) (i := 1) r_NetError rfl rfl),
    NetError_is_NoText := (kitRow_at (D := CNoText) (i := 2) r_NetError rfl rfl),
    NetError_is_NoMove := (kitRow_at (D := CNoMove) (i := 3) r_NetError rfl rfl),
    NetError_is_Held := (kitRow_at (D := CHeld) (i := 4) r_NetError rfl rfl),
    NetError_is_Full := (kitRow_at (D := CFull) (i := 5) r_NetError rfl rfl),
    NetError_is_Crowded := (kitRow_at (D := CCrowded) (i := 6) r_NetError rfl rfl),
    NetError_is_NoSpot := (kitRow_at (D := CNoSpot) (i := 7) r_NetError rfl rfl),
    NetError_is_Misfit := (kitRow_at (D := CMisfit) (i := 8) r_NetError rfl rfl),
    NetError_is_Apart := (kitRow_at (D := CApart) (i := 9) r_NetError rfl rfl),
    NetError_is_Twice := (kitRow_at (D := CTwice) (i := 10) r_NetError rfl rfl),
    NetError_is_NoOccurrence := (kitRow_at (D := CNoOccurrence) (i := 11) r_NetError rfl rfl),
    NetError_is_Clash := (kitRow_at (D := CClash) (i := 12) r_NetError rfl rfl),
    NetError_is_TooMany := (kitRow_at (D := CTooMany) (i := 13) r_NetError rfl rfl),
    NetError_is_NoPlace := (kitRow_at (D := CNoPlace) (i := 14) r_NetError rfl rfl),
    NetError_is_NoRow := (kitRow_at (D := CNoRow) (i := 15) r_NetError rfl rfl),
    NetError_is_NoName := (kitRow_at (D := CNoName) (i := 16) r_NetError rfl rfl),
    NetError_q := q_NetError,
    NoNet_k := k_NoNet,
    NoNet_x := xcB_ok x_NoNet,
    NoNet_v := (kitRow_v r_NoNet),
    NoNet_is_NetError := (kitRow_at (D := CNetError) (i := 0) r_NoNet rfl rfl),
    NoNet_is_NoNet := (kitRow_at (D := CNoNet) (i := 1) r_NoNet rfl rfl),
    NoNet_is_NoText := (kitRow_at (D := CNoText) (i := 2) r_NoNet rfl rfl),
    NoNet_is_NoMove := (kitRow_at (D := CNoMove) (i := 3) r_NoNet rfl rfl),
    NoNet_is_Held := (kitRow_at (D := CHeld) (i := 4) r_NoNet rfl rfl),
    NoNet_is_Full := (kitRow_at (D := CFull) (i := 5) r_NoNet rfl rfl),
    NoNet_is_Crowded := (kitRow_at (D := CCrowded) (i := 6) r_NoNet rfl rfl),
    NoNet_is_NoSpot := (kitRow_at (D := CNoSpot) (i := 7) r_NoNet rfl rfl),
    NoNet_is_Misfit := (kitRow_at (D := CMisfit) (i := 8) r_NoNet rfl rfl),
    NoNet_is_Apart := (kitRow_at (D := CApart) (i := 9) r_NoNet rfl rfl),
    NoNet_is_Twice := (kitRow_at (D := CTwice) (i := 10) r_NoNet rfl rfl),
    NoNet_is_NoOccurrence := (kitRow_at (D := CNoOccurrence) (i := 11) r_NoNet rfl rfl),
    NoNet_is_Clash := (kitRow_at (D := CClash) (i := 12) r_NoNet rfl rfl),
    NoNet_is_TooMany := (kitRow_at (D := CTooMany) (i := 13) r_NoNet rfl rfl),
    NoNet_is_NoPlace := (kitRow_at (D := CNoPlace) (i := 14) r_NoNet rfl rfl),
    NoNet_is_NoRow := (kitRow_at (D := CNoRow) (i := 15) r_NoNet rfl rfl),
    NoNet_is_NoName := (kitRow_at (D := CNoName) (i := 16) r_NoNet rfl rfl),
    NoNet_q := q_NoNet,
    NoText_k := k_NoText,
    NoText_x := xcB_ok x_NoText,
    NoText_v := (kitRow_v r_NoText),
    NoText_is_NetError := (kitRow_at (D := CNetError) (i := 0) r_NoText rfl rfl),
    NoText_is_NoNet := (kitRow_at (D := CNoNet) (i := 1) r_NoText rfl rfl),
    NoText_is_NoText := (kitRow_at (D := CNoText) (i := 2) r_NoText rfl rfl),
    NoText_is_NoMove := (kitRow_at (D := CNoMove) (i := 3) r_NoText rfl rfl),
    NoText_is_Held := (kitRow_at (D := CHeld) (i := 4) r_NoText rfl rfl),
    NoText_is_Full := (kitRow_at (D := CFull) (i := 5) r_NoText rfl rfl),
    NoText_is_Crowded := (kitRow_at (D := CCrowded) (i := 6) r_NoText rfl rfl),
    NoText_is_NoSpot := (kitRow_at (D := CNoSpot) (i := 7) r_NoText rfl rfl),
    NoText_is_Misfit := (kitRow_at (D := CMisfit) (i := 8) r_NoText rfl rfl),
    NoText_is_Apart := (kitRow_at (D := CApart) (i := 9) r_NoText rfl rfl),
    NoText_is_Twice := (kitRow_at (D := CTwice) (i := 10) r_NoText rfl rfl),
    NoText_is_NoOccurrence := (kitRow_at (D := CNoOccurrence) (i := 11) r_NoText rfl rfl),
    NoText_is_Clash := (kitRow_at (D := CClash) (i := 12) r_NoText rfl rfl),
    NoText_is_TooMany := (kitRow_at (D := CTooMany) (i := 13) r_NoText rfl rfl),
    NoText_is_NoPlace := (kitRow_at (D := CNoPlace) (i := 14) r_NoText rfl rfl),
    NoText_is_NoRow := (kitRow_at (D := CNoRow) (i := 15) r_NoText rfl rfl),
    NoText_is_NoName := (kitRow_at (D := CNoName) (i := 16) r_NoText rfl rfl),
    NoText_q := q_NoText,
    NoMove_k := k_NoMove,
    NoMove_x := xcB_ok x_NoMove,
    NoMove_v := (kitRow_v r_NoMove),
    NoMove_is_NetError := (kitRow_at (D := CNetError) (i := 0) r_NoMove rfl rfl),
    NoMove_is_NoNet := (kitRow_at (D := CNoNet) (i := 1) r_NoMove rfl rfl),
    NoMove_is_NoText := (kitRow_at (D := CNoText) (i := 2) r_NoMove rfl rfl),
    NoMove_is_NoMove := (kitRow_at (D := CNoMove) (i := 3) r_NoMove rfl rfl),
    NoMove_is_Held := (kitRow_at (D := CHeld) (i := 4) r_NoMove rfl rfl),
    NoMove_is_Full := (kitRow_at (D := CFull) (i := 5) r_NoMove rfl rfl),
    NoMove_is_Crowded := (kitRow_at (D := CCrowded) (i := 6) r_NoMove rfl rfl),
    NoMove_is_NoSpot := (kitRow_at (D := CNoSpot) (i := 7) r_NoMove rfl rfl),
    NoMove_is_Misfit := (kitRow_at (D := CMisfit) (i := 8) r_NoMove rfl rfl),
    NoMove_is_Apart := (kitRow_at (D := CApart) (i := 9) r_NoMove rfl rfl),
    NoMove_is_Twice := (kitRow_at (D := CTwice) (i := 10) r_NoMove rfl rfl),
    NoMove_is_NoOccurrence := (kitRow_at (D := CNoOccurrence) (i := 11) r_NoMove rfl rfl),
    NoMove_is_Clash := (kitRow_at (D := CClash) (i := 12) r_NoMove rfl rfl),
    NoMove_is_TooMany := (kitRow_at (D := CTooMany) (i := 13) r_NoMove rfl rfl),
    NoMove_is_NoPlace := (kitRow_at (D := CNoPlace) (i := 14) r_NoMove rfl rfl),
    NoMove_is_NoRow := (kitRow_at (D := CNoRow) (i := 15) r_NoMove rfl rfl),
    NoMove_is_NoName := (kitRow_at (D := CNoName) (i := 16) r_NoMove rfl rfl),
    NoMove_i := i_NoMove,
    NoMove_t := t_NoMove,
    NoMove_o := ⟨⟨_, _, _, _, _, _, _, _, _, _, _, _, _, _, _, l_NoMove, m_NoMove⟩, s_NoMove, (xcB_ok x_NoMove).xf.exC, y_NoMove, k_NoMove⟩,
    Held_k := k_Held,
    Held_x := xcB_ok x_Held,
    Held_v := (kitRow_v r_Held),
    Held_is_NetError := (kitRow_at (D := CNetError) (i := 0) r_Held rfl rfl),
    Held_is_NoNet := (kitRow_at (D := CNoNet) (i := 1) r_Held rfl rfl),
    Held_is_NoText := (kitRow_at (D := CNoText) (i := 2) r_Held rfl rfl),
    Held_is_NoMove := (kitRow_at (D := CNoMove) (i := 3) r_Held rfl rfl),
    Held_is_Held := (kitRow_at (D := CHeld) (i := 4) r_Held rfl rfl),
    Held_is_Full := (kitRow_at (D := CFull) (i := 5) r_Held rfl rfl),
    Held_is_Crowded := (kitRow_at (D := CCrowded) (i := 6) r_Held rfl rfl),
    Held_is_NoSpot := (kitRow_at (D := CNoSpot) (i := 7) r_Held rfl rfl),
    Held_is_Misfit := (kitRow_at (D := CMisfit) (i := 8) r_Held rfl rfl),
    Held_is_Apart := (kitRow_at (D := CApart) (i := 9) r_Held rfl rfl),
    Held_is_Twice := (kitRow_at (D := CTwice) (i := 10) r_Held rfl rfl),
    Held_is_NoOccurrence := (kitRow_at (D := CNoOccurrence) (i := 11) r_Held rfl rfl),
    Held_is_Clash := (kitRow_at (D := CClash) (i := 12) r_Held rfl rfl),
    Held_is_TooMany := (kitRow_at (D := CTooMany) (i := 13) r_Held rfl rfl),
    Held_is_NoPlace := (kitRow_at (D := CNoPlace) (i := 14) r_Held rfl rfl),
    Held_is_NoRow := (kitRow_at (D := CNoRow) (i := 15) r_Held rfl rfl),
    Held_is_NoName := (kitRow_at (D := CNoName) (i := 16) r_Held rfl rfl),
    Held_i := i_Held,
    Held_t := t_Held,
    Held_o := ⟨⟨_, _, _, _, _, _, _, _, _, _, _, _, _, _, _, l_Held, m_Held⟩, s_Held, (xcB_ok x_Held).xf.exC, y_Held, k_Held⟩,
    Full_k := k_Full,
    Full_x := xcB_ok x_Full,
    Full_v := (kitRow_v r_Full),
    Full_is_NetError := (kitRow_at (D := CNetError) (i := 0) r_Full rfl rfl),
    Full_is_NoNet := (kitRow_at (D := CNoNet) (i := 1) r_Full rfl rfl),
    Full_is_NoText := (kitRow_at (D := CNoText) (i := 2) r_Full rfl rfl),
    Full_is_NoMove := (kitRow_at (D := CNoMove) (i := 3) r_Full rfl rfl),
    Full_is_Held := (kitRow_at (D := CHeld) (i := 4) r_Full rfl rfl),
    Full_is_Full := (kitRow_at (D := CFull) (i := 5) r_Full rfl rfl),
    Full_is_Crowded := (kitRow_at (D := CCrowded) (i := 6) r_Full rfl rfl),
    Full_is_NoSpot := (kitRow_at (D := CNoSpot) (i := 7) r_Full rfl rfl),
    Full_is_Misfit := (kitRow_at (D := CMisfit) (i := 8) r_Full rfl rfl),
    Full_is_Apart := (kitRow_at (D := CApart) (i := 9) r_Full rfl rfl),
    Full_is_Twice := (kitRow_at (D := CTwice) (i := 10) r_Full rfl rfl),
    Full_is_NoOccurrence := (kitRow_at (D := CNoOccurrence) (i := 11) r_Full rfl rfl),
    Full_is_Clash := (kitRow_at (D := CClash) (i := 12) r_Full rfl rfl),
    Full_is_TooMany := (kitRow_at (D := CTooMany) (i := 13) r_Full rfl rfl),
    Full_is_NoPlace := (kitRow_at (D := CNoPlace) (i := 14) r_Full rfl rfl),
    Full_is_NoRow := (kitRow_at (D := CNoRow) (i := 15) r_Full rfl rfl),
    Full_is_NoName := (kitRow_at (D := CNoName) (i := 16) r_Full rfl rfl),
    Full_i := i_Full,
    Full_t := t_Full,
    Full_o := ⟨⟨_, _, _, _, _, _, _, _, _, _, _, _, _, _, _, l_Full, m_Full⟩, s_Full, (xcB_ok x_Full).xf.exC, y_Full, k_Full⟩,
    Crowded_k := k_Crowded,
    Crowded_x := xcB_ok x_Crowded,
    Crowded_v := (kitRow_v r_Crowded),
    Crowded_is_NetError := (kitRow_at (D := CNetError) (i := 0) r_Crowded rfl rfl),
    Crowded_is_NoNet := (kitRow_at (D := CNoNet) (i := 1) r_Crowded rfl rfl),
    Crowded_is_NoText := (kitRow_at (D := CNoText) (i := 2) r_Crowded rfl rfl),
    Crowded_is_NoMove := (kitRow_at (D := CNoMove) (i := 3) r_Crowded rfl rfl),
    Crowded_is_Held := (kitRow_at (D := CHeld) (i := 4) r_Crowded rfl rfl),
    Crowded_is_Full := (kitRow_at (D := CFull) (i := 5) r_Crowded rfl rfl),
    Crowded_is_Crowded := (kitRow_at (D := CCrowded) (i := 6) r_Crowded rfl rfl),
    Crowded_is_NoSpot := (kitRow_at (D := CNoSpot) (i := 7) r_Crowded rfl rfl),
    Crowded_is_Misfit := (kitRow_at (D := CMisfit) (i := 8) r_Crowded rfl rfl),
    Crowded_is_Apart := (kitRow_at (D := CApart) (i := 9) r_Crowded rfl rfl),
    Crowded_is_Twice := (kitRow_at (D := CTwice) (i := 10) r_Crowded rfl rfl),
    Crowded_is_NoOccurrence := (kitRow_at (D := CNoOccurrence) (i := 11) r_Crowded rfl rfl),
    Crowded_is_Clash := (kitRow_at (D := CClash) (i := 12) r_Crowded rfl rfl),
    Crowded_is_TooMany := (kitRow_at (D := CTooMany) (i := 13) r_Crowded rfl rfl),
    Crowded_is_NoPlace := (kitRow_at (D := CNoPlace) (i := 14) r_Crowded rfl rfl),
    Crowded_is_NoRow := (kitRow_at (D := CNoRow) (i := 15) r_Crowded rfl rfl),
    Crowded_is_NoName := (kitRow_at (D := CNoName) (i := 16) r_Crowded rfl rfl),
    Crowded_i := i_Crowded,
    Crowded_t := t_Crowded,
    Crowded_o := ⟨⟨_, _, _, _, _, _, _, _, _, _, _, _, _, _, _, l_Crowded, m_Crowded⟩, s_Crowded, (xcB_ok x_Crowded).xf.exC, y_Crowded, k_Crowded⟩,
    NoSpot_k := k_NoSpot,
    NoSpot_x := xcB_ok x_NoSpot,
    NoSpot_v := (kitRow_v r_NoSpot),
    NoSpot_is_NetError := (kitRow_at (D := CNetError) (i := 0) r_NoSpot rfl rfl),
    NoSpot_is_NoNet := (kitRow_at (D := CNoNet) (i := 1) r_NoSpot rfl rfl),
    NoSpot_is_NoText := (kitRow_at (D := CNoText) (i := 2) r_NoSpot rfl rfl),
    NoSpot_is_NoMove := (kitRow_at (D := CNoMove) (i := 3) r_NoSpot rfl rfl),
    NoSpot_is_Held := (kitRow_at (D := CHeld) (i := 4) r_NoSpot rfl rfl),
    NoSpot_is_Full := (kitRow_at (D := CFull) (i := 5) r_NoSpot rfl rfl),
    NoSpot_is_Crowded := (kitRow_at (D := CCrowded) (i := 6) r_NoSpot rfl rfl),
    NoSpot_is_NoSpot := (kitRow_at (D := CNoSpot) (i := 7) r_NoSpot rfl rfl),
    NoSpot_is_Misfit := (kitRow_at (D := CMisfit) (i := 8) r_NoSpot rfl rfl),
    NoSpot_is_Apart := (kitRow_at (D := CApart) (i := 9) r_NoSpot rfl rfl),
    NoSpot_is_Twice := (kitRow_at (D := CTwice) (i := 10) r_NoSpot rfl rfl),
    NoSpot_is_NoOccurrence := (kitRow_at (D := CNoOccurrence) (i := 11) r_NoSpot rfl rfl),
    NoSpot_is_Clash := (kitRow_at (D := CClash) (i := 12) r_NoSpot rfl rfl),
    NoSpot_is_TooMany := (kitRow_at (D := CTooMany) (i := 13) r_NoSpot rfl rfl),
    NoSpot_is_NoPlace := (kitRow_at (D := CNoPlace) (i := 14) r_NoSpot rfl rfl),
    NoSpot_is_NoRow := (kitRow_at (D := CNoRow) (i := 15) r_NoSpot rfl rfl),
    NoSpot_is_NoName := (kitRow_at (D := CNoName) (i := 16) r_NoSpot rfl rfl),
    NoSpot_q := q_NoSpot,
    Misfit_k := k_Misfit,
    Misfit_x := xcB_ok x_Misfit,
    Misfit_v := (kitRow_v r_Misfit),
    Misfit_is_NetError := (kitRow_at (D := CNetError) (i := 0) r_Misfit rfl rfl),
    Misfit_is_NoNet := (kitRow_at (D := CNoNet) (i := 1) r_Misfit rfl rfl),
    Misfit_is_NoText := (kitRow_at (D := CNoText) (i := 2) r_Misfit rfl rfl),
    Misfit_is_NoMove := (kitRow_at (D := CNoMove) (i := 3) r_Misfit rfl rfl),
    Misfit_is_Held := (kitRow_at (D := CHeld) (i := 4) r_Misfit rfl rfl),
    Misfit_is_Full := (kitRow_at (D := CFull) (i := 5) r_Misfit rfl rfl),
    Misfit_is_Crowded := (kitRow_at (D := CCrowded) (i := 6) r_Misfit rfl rfl),
    Misfit_is_NoSpot := (kitRow_at (D := CNoSpot) (i := 7) r_Misfit rfl rfl),
    Misfit_is_Misfit := (kitRow_at (D := CMisfit) (i := 8) r_Misfit rfl rfl),
    Misfit_is_Apart := (kitRow_at (D := CApart) (i := 9) r_Misfit rfl rfl),
    Misfit_is_Twice := (kitRow_at (D := CTwice) (i := 10) r_Misfit rfl rfl),
    Misfit_is_NoOccurrence := (kitRow_at (D := CNoOccurrence) (i := 11) r_Misfit rfl rfl),
    Misfit_is_Clash := (kitRow_at (D := CClash) (i := 12) r_Misfit rfl rfl),
    Misfit_is_TooMany := (kitRow_at (D := CTooMany) (i := 13) r_Misfit rfl rfl),
    Misfit_is_NoPlace := (kitRow_at (D := CNoPlace) (i := 14) r_Misfit rfl rfl),
    Misfit_is_NoRow := (kitRow_at (D := CNoRow) (i := 15) r_Misfit rfl rfl),
    Misfit_is_NoName := (kitRow_at (D := CNoName) (i := 16) r_Misfit rfl rfl),
    Misfit_q := q_Misfit,
    Apart_k := k_Apart,
    Apart_x := xcB_ok x_Apart,
    Apart_v := (kitRow_v r_Apart),
    Apart_is_NetError := (kitRow_at (D := CNetError) (i := 0) r_Apart rfl rfl),
    Apart_is_NoNet := (kitRow_at (D := CNoNet) (i := 1) r_Apart rfl rfl),
    Apart_is_NoText := (kitRow_at (D := CNoText) (i := 2) r_Apart rfl rfl),
    Apart_is_NoMove := (kitRow_at (D := CNoMove) (i := 3) r_Apart rfl rfl),
    Apart_is_Held := (kitRow_at (D := CHeld) (i := 4) r_Apart rfl rfl),
    Apart_is_Full := (kitRow_at (D := CFull) (i := 5) r_Apart rfl rfl),
    Apart_is_Crowded := (kitRow_at (D := CCrowded) (i := 6) r_Apart rfl rfl),
    Apart_is_NoSpot := (kitRow_at (D := CNoSpot) (i := 7) r_Apart rfl rfl),
    Apart_is_Misfit := (kitRow_at (D := CMisfit) (i := 8) r_Apart rfl rfl),
    Apart_is_Apart := (kitRow_at (D := CApart) (i := 9) r_Apart rfl rfl),
    Apart_is_Twice := (kitRow_at (D := CTwice) (i := 10) r_Apart rfl rfl),
    Apart_is_NoOccurrence := (kitRow_at (D := CNoOccurrence) (i := 11) r_Apart rfl rfl),
    Apart_is_Clash := (kitRow_at (D := CClash) (i := 12) r_Apart rfl rfl),
    Apart_is_TooMany := (kitRow_at (D := CTooMany) (i := 13) r_Apart rfl rfl),
    Apart_is_NoPlace := (kitRow_at (D := CNoPlace) (i := 14) r_Apart rfl rfl),
    Apart_is_NoRow := (kitRow_at (D := CNoRow) (i := 15) r_Apart rfl rfl),
    Apart_is_NoName := (kitRow_at (D := CNoName) (i := 16) r_Apart rfl rfl),
    Apart_i := i_Apart,
    Apart_t := t_Apart,
    Apart_o := ⟨⟨_, _, _, _, _, _, _, _, _, _, _, _, _, _, _, l_Apart, m_Apart⟩, s_Apart, (xcB_ok x_Apart).xf.exC, y_Apart, k_Apart⟩,
    Twice_k := k_Twice,
    Twice_x := xcB_ok x_Twice,
    Twice_v := (kitRow_v r_Twice),
    Twice_is_NetError := (kitRow_at (D := CNetError) (i := 0) r_Twice rfl rfl),
    Twice_is_NoNet := (kitRow_at (D := CNoNet) (i := 1) r_Twice rfl rfl),
    Twice_is_NoText := (kitRow_at (D := CNoText) (i := 2) r_Twice rfl rfl),
    Twice_is_NoMove := (kitRow_at (D := CNoMove) (i := 3) r_Twice rfl rfl),
    Twice_is_Held := (kitRow_at (D := CHeld) (i := 4) r_Twice rfl rfl),
    Twice_is_Full := (kitRow_at (D := CFull) (i := 5) r_Twice rfl rfl),
    Twice_is_Crowded := (kitRow_at (D := CCrowded) (i := 6) r_Twice rfl rfl),
    Twice_is_NoSpot := (kitRow_at (D := CNoSpot) (i := 7) r_Twice rfl rfl),
    Twice_is_Misfit := (kitRow_at (D := CMisfit) (i := 8) r_Twice rfl rfl),
    Twice_is_Apart := (kitRow_at (D := CApart) (i := 9) r_Twice rfl rfl),
    Twice_is_Twice := (kitRow_at (D := CTwice) (i := 10) r_Twice rfl rfl),
    Twice_is_NoOccurrence := (kitRow_at (D := CNoOccurrence) (i := 11) r_Twice rfl rfl),
    Twice_is_Clash := (kitRow_at (D := CClash) (i := 12) r_Twice rfl rfl),
    Twice_is_TooMany := (kitRow_at (D := CTooMany) (i := 13) r_Twice rfl rfl),
    Twice_is_NoPlace := (kitRow_at (D := CNoPlace) (i := 14) r_Twice rfl rfl),
    Twice_is_NoRow := (kitRow_at (D := CNoRow) (i := 15) r_Twice rfl rfl),
    Twice_is_NoName := (kitRow_at (D := CNoName) (i := 16) r_Twice rfl rfl),
    Twice_i := i_Twice,
    Twice_t := t_Twice,
    Twice_o := ⟨⟨_, _, _, _, _, _, _, _, _, _, _, _, _, _, _, l_Twice, m_Twice⟩, s_Twice, (xcB_ok x_Twice).xf.exC, y_Twice, k_Twice⟩,
    NoOccurrence_k := k_NoOccurrence,
    NoOccurrence_x := xcB_ok x_NoOccurrence,
    NoOccurrence_v := (kitRow_v r_NoOccurrence),
    NoOccurrence_is_NetError := (kitRow_at (D := CNetError) (i := 0) r_NoOccurrence rfl rfl),
    NoOccurrence_is_NoNet := (kitRow_at (D := CNoNet) (i := 1) r_NoOccurrence rfl rfl),
    NoOccurrence_is_NoText := (kitRow_at (D := CNoText) (i := 2) r_NoOccurrence rfl rfl),
    NoOccurrence_is_NoMove := (kitRow_at (D := CNoMove) (i := 3) r_NoOccurrence rfl rfl),
    NoOccurrence_is_Held := (kitRow_at (D := CHeld) (i := 4) r_NoOccurrence rfl rfl),
    NoOccurrence_is_Full := (kitRow_at (D := CFull) (i := 5) r_NoOccurrence rfl rfl),
    NoOccurrence_is_Crowded := (kitRow_at (D := CCrowded) (i := 6) r_NoOccurrence rfl rfl),
    NoOccurrence_is_NoSpot := (kitRow_at (D := CNoSpot) (i := 7) r_NoOccurrence rfl rfl),
    NoOccurrence_is_Misfit := (kitRow_at (D := CMisfit) (i := 8) r_NoOccurrence rfl rfl),
    NoOccurrence_is_Apart := (kitRow_at (D := CApart) (i := 9) r_NoOccurrence rfl rfl),
    NoOccurrence_is_Twice := (kitRow_at (D := CTwice) (i := 10) r_NoOccurrence rfl rfl),
    NoOccurrence_is_NoOccurrence := (kitRow_at (D := CNoOccurrence) (i := 11) r_NoOccurrence rfl rfl),
    NoOccurrence_is_Clash := (kitRow_at (D := CClash) (i := 12) r_NoOccurrence rfl rfl),
    NoOccurrence_is_TooMany := (kitRow_at (D := CTooMany) (i := 13) r_NoOccurrence rfl rfl),
    NoOccurrence_is_NoPlace := (kitRow_at (D := CNoPlace) (i := 14) r_NoOccurrence rfl rfl),
    NoOccurrence_is_NoRow := (kitRow_at (D := CNoRow) (i := 15) r_NoOccurrence rfl rfl),
    NoOccurrence_is_NoName := (kitRow_at (D := CNoName) (i := 16) r_NoOccurrence rfl rfl),
    NoOccurrence_q := q_NoOccurrence,
    Clash_k := k_Clash,
    Clash_x := xcB_ok x_Clash,
    Clash_v := (kitRow_v r_Clash),
    Clash_is_NetError := (kitRow_at (D := CNetError) (i := 0) r_Clash rfl rfl),
    Clash_is_NoNet := (kitRow_at (D := CNoNet) (i := 1) r_Clash rfl rfl),
    Clash_is_NoText := (kitRow_at (D := CNoText) (i := 2) r_Clash rfl rfl),
    Clash_is_NoMove := (kitRow_at (D := CNoMove) (i := 3) r_Clash rfl rfl),
    Clash_is_Held := (kitRow_at (D := CHeld) (i := 4) r_Clash rfl rfl),
    Clash_is_Full := (kitRow_at (D := CFull) (i := 5) r_Clash rfl rfl),
    Clash_is_Crowded := (kitRow_at (D := CCrowded) (i := 6) r_Clash rfl rfl),
    Clash_is_NoSpot := (kitRow_at (D := CNoSpot) (i := 7) r_Clash rfl rfl),
    Clash_is_Misfit := (kitRow_at (D := CMisfit) (i := 8) r_Clash rfl rfl),
    Clash_is_Apart := (kitRow_at (D := CApart) (i := 9) r_Clash rfl rfl),
    Clash_is_Twice := (kitRow_at (D := CTwice) (i := 10) r_Clash rfl rfl),
    Clash_is_NoOccurrence := (kitRow_at (D := CNoOccurrence) (i := 11) r_Clash rfl rfl),
    Clash_is_Clash := (kitRow_at (D := CClash) (i := 12) r_Clash rfl rfl),
    Clash_is_TooMany := (kitRow_at (D := CTooMany) (i := 13) r_Clash rfl rfl),
    Clash_is_NoPlace := (kitRow_at (D := CNoPlace) (i := 14) r_Clash rfl rfl),
    Clash_is_NoRow := (kitRow_at (D := CNoRow) (i := 15) r_Clash rfl rfl),
    Clash_is_NoName := (kitRow_at (D := CNoName) (i := 16) r_Clash rfl rfl),
    Clash_i := i_Clash,
    Clash_t := t_Clash,
    Clash_o := ⟨⟨_, _, _, _, _, _, _, _, _, _, _, _, _, _, _, l_Clash, m_Clash⟩, s_Clash, (xcB_ok x_Clash).xf.exC, y_Clash, k_Clash⟩,
    TooMany_k := k_TooMany,
    TooMany_x := xcB_ok x_TooMany,
    TooMany_v := (kitRow_v r_TooMany),
    TooMany_is_NetError := (kitRow_at (D := CNetError) (i := 0) r_TooMany rfl rfl),
    TooMany_is_NoNet := (kitRow_at (D := CNoNet) (i := 1) r_TooMany rfl rfl),
    TooMany_is_NoText := (kitRow_at (D := CNoText) (i := 2) r_TooMany rfl rfl),
    TooMany_is_NoMove := (kitRow_at (D := CNoMove) (i := 3) r_TooMany rfl rfl),
    TooMany_is_Held := (kitRow_at (D := CHeld) (i := 4) r_TooMany rfl rfl),
    TooMany_is_Full := (kitRow_at (D := CFull) (i := 5) r_TooMany rfl rfl),
    TooMany_is_Crowded := (kitRow_at (D := CCrowded) (i := 6) r_TooMany rfl rfl),
    TooMany_is_NoSpot := (kitRow_at (D := CNoSpot) (i := 7) r_TooMany rfl rfl),
    TooMany_is_Misfit := (kitRow_at (D := CMisfit) (i := 8) r_TooMany rfl rfl),
    TooMany_is_Apart := (kitRow_at (D := CApart) (i := 9) r_TooMany rfl rfl),
    TooMany_is_Twice := (kitRow_at (D := CTwice) (i := 10) r_TooMany rfl rfl),
    TooMany_is_NoOccurrence := (kitRow_at (D := CNoOccurrence) (i := 11) r_TooMany rfl rfl),
    TooMany_is_Clash := (kitRow_at (D := CClash) (i := 12) r_TooMany rfl rfl),
    TooMany_is_TooMany := (kitRow_at (D := CTooMany) (i := 13) r_TooMany rfl rfl),
    TooMany_is_NoPlace := (kitRow_at (D := CNoPlace) (i := 14) r_TooMany rfl rfl),
    TooMany_is_NoRow := (kitRow_at (D := CNoRow) (i := 15) r_TooMany rfl rfl),
    TooMany_is_NoName := (kitRow_at (D := CNoName) (i := 16) r_TooMany rfl rfl),
    TooMany_q := q_TooMany,
    NoPlace_k := k_NoPlace,
    NoPlace_x := xcB_ok x_NoPlace,
    NoPlace_v := (kitRow_v r_NoPlace),
    NoPlace_is_NetError := (kitRow_at (D := CNetError) (i := 0) r_NoPlace rfl rfl),
    NoPlace_is_NoNet := (kitRow_at (D := CNoNet) (i := 1) r_NoPlace rfl rfl),
    NoPlace_is_NoText := (kitRow_at (D := CNoText) (i := 2) r_NoPlace rfl rfl),
    NoPlace_is_NoMove := (kitRow_at (D := CNoMove) (i := 3) r_NoPlace rfl rfl),
    NoPlace_is_Held := (kitRow_at (D := CHeld) (i := 4) r_NoPlace rfl rfl),
    NoPlace_is_Full := (kitRow_at (D := CFull) (i := 5) r_NoPlace rfl rfl),
    NoPlace_is_Crowded := (kitRow_at (D := CCrowded) (i := 6) r_NoPlace rfl rfl),
    NoPlace_is_NoSpot := (kitRow_at (D := CNoSpot) (i := 7) r_NoPlace rfl rfl),
    NoPlace_is_Misfit := (kitRow_at (D := CMisfit) (i := 8) r_NoPlace rfl rfl),
    NoPlace_is_Apart := (kitRow_at (D := CApart) (i := 9) r_NoPlace rfl rfl),
    NoPlace_is_Twice := (kitRow_at (D := CTwice) (i := 10) r_NoPlace rfl rfl),
    NoPlace_is_NoOccurrence := (kitRow_at (D := CNoOccurrence) (i := 11) r_NoPlace rfl rfl),
    NoPlace_is_Clash := (kitRow_at (D := CClash) (i := 12) r_NoPlace rfl rfl),
    NoPlace_is_TooMany := (kitRow_at (D := CTooMany) (i := 13) r_NoPlace rfl rfl),
    NoPlace_is_NoPlace := (kitRow_at (D := CNoPlace) (i := 14) r_NoPlace rfl rfl),
    NoPlace_is_NoRow := (kitRow_at (D := CNoRow) (i := 15) r_NoPlace rfl rfl),
    NoPlace_is_NoName := (kitRow_at (D := CNoName) (i := 16) r_NoPlace rfl rfl),
    NoPlace_q := q_NoPlace,
    NoRow_k := k_NoRow,
    NoRow_x := xcB_ok x_NoRow,
    NoRow_v := (kitRow_v r_NoRow),
    NoRow_is_NetError := (kitRow_at (D := CNetError) (i := 0) r_NoRow rfl rfl),
    NoRow_is_NoNet := (kitRow_at (D := CNoNet) (i := 1) r_NoRow rfl rfl),
    NoRow_is_NoText := (kitRow_at (D := CNoText) (i := 2) r_NoRow rfl rfl),
    NoRow_is_NoMove := (kitRow_at (D := CNoMove) (i := 3) r_NoRow rfl rfl),
    NoRow_is_Held := (kitRow_at (D := CHeld) (i := 4) r_NoRow rfl rfl),
    NoRow_is_Full := (kitRow_at (D := CFull) (i := 5) r_NoRow rfl rfl),
    NoRow_is_Crowded := (kitRow_at (D := CCrowded) (i := 6) r_NoRow rfl rfl),
    NoRow_is_NoSpot := (kitRow_at (D := CNoSpot) (i := 7) r_NoRow rfl rfl),
    NoRow_is_Misfit := (kitRow_at (D := CMisfit) (i := 8) r_NoRow rfl rfl),
    NoRow_is_Apart := (kitRow_at (D := CApart) (i := 9) r_NoRow rfl rfl),
    NoRow_is_Twice := (kitRow_at (D := CTwice) (i := 10) r_NoRow rfl rfl),
    NoRow_is_NoOccurrence := (kitRow_at (D := CNoOccurrence) (i := 11) r_NoRow rfl rfl),
    NoRow_is_Clash := (kitRow_at (D := CClash) (i := 12) r_NoRow rfl rfl),
    NoRow_is_TooMany := (kitRow_at (D := CTooMany) (i := 13) r_NoRow rfl rfl),
    NoRow_is_NoPlace := (kitRow_at (D := CNoPlace) (i := 14) r_NoRow rfl rfl),
    NoRow_is_NoRow := (kitRow_at (D := CNoRow) (i := 15) r_NoRow rfl rfl),
    NoRow_is_NoName := (kitRow_at (D := CNoName) (i := 16) r_NoRow rfl rfl),
    NoRow_q := q_NoRow,
    NoName_k := k_NoName,
    NoName_x := xcB_ok x_NoName,
    NoName_v := (kitRow_v r_NoName),
    NoName_is_NetError := (kitRow_at (D := CNetError) (i := 0) r_NoName rfl rfl),
    NoName_is_NoNet := (kitRow_at (D := CNoNet) (i := 1) r_NoName rfl rfl),
    NoName_is_NoText := (kitRow_at (D := CNoText) (i := 2) r_NoName rfl rfl),
    NoName_is_NoMove := (kitRow_at (D := CNoMove) (i := 3) r_NoName rfl rfl),
    NoName_is_Held := (kitRow_at (D := CHeld) (i := 4) r_NoName rfl rfl),
    NoName_is_Full := (kitRow_at (D := CFull) (i := 5) r_NoName rfl rfl),
    NoName_is_Crowded := (kitRow_at (D := CCrowded) (i := 6) r_NoName rfl rfl),
    NoName_is_NoSpot := (kitRow_at (D := CNoSpot) (i := 7) r_NoName rfl rfl),
    NoName_is_Misfit := (kitRow_at (D := CMisfit) (i := 8) r_NoName rfl rfl),
    NoName_is_Apart := (kitRow_at (D := CApart) (i := 9) r_NoName rfl rfl),
    NoName_is_Twice := (kitRow_at (D := CTwice) (i := 10) r_NoName rfl rfl),
    NoName_is_NoOccurrence := (kitRow_at (D := CNoOccurrence) (i := 11) r_NoName rfl rfl),
    NoName_is_Clash := (kitRow_at (D := CClash) (i := 12) r_NoName rfl rfl),
    NoName_is_TooMany := (kitRow_at (D := CTooMany) (i := 13) r_NoName rfl rfl),
    NoName_is_NoPlace := (kitRow_at (D := CNoPlace) (i := 14) r_NoName rfl rfl),
    NoName_is_NoRow := (kitRow_at (D := CNoRow) (i := 15) r_NoName rfl rfl),
    NoName_is_NoName := (kitRow_at (D := CNoName) (i := 16) r_NoName rfl rfl),
    NoName_q := q_NoName,
    NoMove_a_at := at_NoMove_at,
    Held_a_at := at_Held_at,
    Full_a_at := at_Full_at,
    Crowded_a_row := at_Crowded_row,
    Apart_a_one := at_Apart_one,
    Apart_a_other := at_Apart_other,
    Twice_a_number := at_Twice_number,
    Clash_a_one := at_Clash_one,
    Clash_a_other := at_Clash_other,
    NoMove_init := f_NoMove_init,
    NoMove_init_d := _,
    NoMove_init_F := F_NoMove_init,
    NoMove_init_k := K_NoMove_init,
    NoMove_init_b := B_NoMove_init,
    Held_init := f_Held_init,
    Held_init_d := _,
    Held_init_F := F_Held_init,
    Held_init_k := K_Held_init,
    Held_init_b := B_Held_init,
    Full_init := f_Full_init,
    Full_init_d := _,
    Full_init_F := F_Full_init,
    Full_init_k := K_Full_init,
    Full_init_b := B_Full_init,
    Crowded_init := f_Crowded_init,
    Crowded_init_d := _,
    Crowded_init_F := F_Crowded_init,
    Crowded_init_k := K_Crowded_init,
    Crowded_init_b := B_Crowded_init,
    Apart_init := f_Apart_init,
    Apart_init_d := _,
    Apart_init_F := F_Apart_init,
    Apart_init_k := K_Apart_init,
    Apart_init_b := B_Apart_init,
    Twice_init := f_Twice_init,
    Twice_init_d := _,
    Twice_init_F := F_Twice_init,
    Twice_init_k := K_Twice_init,
    Twice_init_b := B_Twice_init,
    Clash_init := f_Clash_init,
    Clash_init_d := _,
    Clash_init_F := F_Clash_init,
    Clash_init_k := K_Clash_init,
    Clash_init_b := B_Clash_init,
    law_pot_g := PySem.W.mg_of X G b_law_pot,
    law_pot := f_law_pot,
    law_pot_d := _,
    law_pot_F := F_law_pot,
    law_pot_k := K_law_pot,
    law_pot_b := B_law_pot,
    law_take_g := PySem.W.mg_of X G b_law_take,
    law_take := f_law_take,
    law_take_d := _,
    law_take_F := F_law_take,
    law_take_k := K_law_take,
    law_take_b := B_law_take,
    law_number_g := PySem.W.mg_of X G b_law_number,
    law_number := f_law_number,
    law_number_d := _,
    law_number_F := F_law_number,
    law_number_k := K_law_number,
    law_number_b := B_law_number,
    law_row_g := PySem.W.mg_of X G b_law_row,
    law_row := f_law_row,
    law_row_d := _,
    law_row_F := F_law_row,
    law_row_k := K_law_row,
    law_row_b := B_law_row,
    law_kinds_g := PySem.W.mg_of X G b_law_kinds,
    law_kinds := f_law_kinds,
    law_kinds_d := _,
    law_kinds_F := F_law_kinds,
    law_kinds_k := K_law_kinds,
    law_kinds_b := B_law_kinds,
    law_bare_right_g := PySem.W.mg_of X G b_law_bare_right,
    law_bare_right := f_law_bare_right,
    law_bare_right_d := _,
    law_bare_right_F := F_law_bare_right,
    law_bare_right_k := K_law_bare_right,
    law_bare_right_b := B_law_bare_right,
    law_right_g := PySem.W.mg_of X G b_law_right,
    law_right := f_law_right,
    law_right_d := _,
    law_right_F := F_law_right,
    law_right_k := K_law_right,
    law_right_b := B_law_right,
    law_g := PySem.W.mg_of X G b_law,
    law := fa,
    law_d := _,
    law_F := F_law,
    law_k := K_law,
    law_b := B_law }
  exact ⟨_, fun s v => .of_eq rfl, fun base _ _ => ok_law T⟩
theorem walk {l : PySem.W.OpenLaw} {q : Program} {loose : List Str} {XP : (Str → Option Value) → Heap → Prop} {YP : World → Heap → Prop} {d : DefRec} {K : Params → PySem.W.Frag} (hn : l.most = some 63) (hdf : d.params.defaults = [])
    (hY : ∀ (w : World) (h : Heap), YP w h → (K w.params).In h)
    (F : ∀ (w : World) (mg : Str → Option Value) (fa : Addr) (h : Heap), (K w.params).In h → h.Ns mainGlobals mg → mg d.name = some (.ref fa) →
      ∃ fd : FuncData, (∀ (s : Shared) (u : Value), BindsTo s fd ⟨[u], []⟩ [("script", u)]) ∧ ∀ base : Heap, (K w.params).In base → base.Ns mainGlobals mg → FnOk l.prog w (K w.params) mg base CX0 4 fa fd ["script"] (spLaw (K w.params))) :
    PySem.W.WalkO q loose XP YP l.row.toRowW d [] (fun f vs => PySem.call f vs) :=
  L2.walk_of (n := 63) (k := 4) (x := "script") (CX := fun _ => CX0) (sp := fun w => spLaw (K w.params)) hn (by rw [sizeLine_eq]; decide) hdf ⟨rfl, by decide, by decide⟩ hY F (fun _ _ a ns hl _ hS => ⟨a, ns, rfl, hS, hl, fun _ => rfl⟩) fun _ _ _ _ _ z => z
end U
open PySem PySem.W PyProof.Rows
set_option maxRecDepth 100000 in
set_option maxHeartbeats 0 in
theorem PySem.Challenge.cw_unfoldnet_k97_refusals_made_holds : PySem.Challenge.rw_unfoldnet_k97_refusals_made.Holds := by
  w_on; o_law; k_head; (case hw => w_witness2)
  k_fill
  refine U.walk (l := PySem.Challenge.rw_unfoldnet_k97_refusals_made) rfl rfl (fun w h Y => PySem.W.kIn_of Y) ?F
  case F =>
    intro w mg fa h KX G hmg
    refine' U.all_mk KX G hmg ?z_ValueError ?z_abs ?z_all ?z_divmod ?z_isinstance ?z_len ?z_list ?z_max ?z_min ?z_range ?z_sorted ?a_NetError ?a_NoNet ?a_NoText ?a_NoMove ?a_Held ?a_Full ?a_Crowded ?a_NoSpot ?a_Misfit ?a_Apart ?a_Twice ?a_NoOccurrence ?a_Clash ?a_TooMany ?a_NoPlace ?a_NoRow ?a_NoName ?g1 ?g2 ?k_NetError ?x_NetError ?r_NetError ?q_NetError ?k_NoNet ?x_NoNet ?r_NoNet ?q_NoNet ?k_NoText ?x_NoText ?r_NoText ?q_NoText ?k_NoMove ?x_NoMove ?r_NoMove ?i_NoMove ?t_NoMove ?l_NoMove ?m_NoMove ?s_NoMove ?y_NoMove ?k_Held ?x_Held ?r_Held ?i_Held ?t_Held ?l_Held ?m_Held ?s_Held ?y_Held ?k_Full ?x_Full ?r_Full ?i_Full ?t_Full ?l_Full ?m_Full ?s_Full ?y_Full ?k_Crowded ?x_Crowded ?r_Crowded ?i_Crowded ?t_Crowded ?l_Crowded ?m_Crowded ?s_Crowded ?y_Crowded ?k_NoSpot ?x_NoSpot ?r_NoSpot ?q_NoSpot ?k_Misfit ?x_Misfit ?r_Misfit ?q_Misfit ?k_Apart ?x_Apart ?r_Apart ?i_Apart ?t_Apart ?l_Apart ?m_Apart ?s_Apart ?y_Apart ?k_Twice ?x_Twice ?r_Twice ?i_Twice ?t_Twice ?l_Twice ?m_Twice ?s_Twice ?y_Twice ?k_NoOccurrence ?x_NoOccurrence ?r_NoOccurrence ?q_NoOccurrence ?k_Clash ?x_Clash ?r_Clash ?i_Clash ?t_Clash ?l_Clash ?m_Clash ?s_Clash ?y_Clash ?k_TooMany ?x_TooMany ?r_TooMany ?q_TooMany ?k_NoPlace ?x_NoPlace ?r_NoPlace ?q_NoPlace ?k_NoRow ?x_NoRow ?r_NoRow ?q_NoRow ?k_NoName ?x_NoName ?r_NoName ?q_NoName ?at_NoMove_at ?at_Held_at ?at_Full_at ?at_Crowded_row ?at_Apart_one ?at_Apart_other ?at_Twice_number ?at_Clash_one ?at_Clash_other ?L_NoMove_init ?d_NoMove_init ?K_NoMove_init ?L_Held_init ?d_Held_init ?K_Held_init ?L_Full_init ?d_Full_init ?K_Full_init ?L_Crowded_init ?d_Crowded_init ?K_Crowded_init ?L_Apart_init ?d_Apart_init ?K_Apart_init ?L_Twice_init ?d_Twice_init ?K_Twice_init ?L_Clash_init ?d_Clash_init ?K_Clash_init ?b_law_pot ?L_law_pot ?d_law_pot ?K_law_pot ?b_law_take ?L_law_take ?d_law_take ?K_law_take ?b_law_number ?L_law_number ?d_law_number ?K_law_number ?b_law_row ?L_law_row ?d_law_row ?K_law_row ?b_law_kinds ?L_law_kinds ?d_law_kinds ?K_law_kinds ?b_law_bare_right ?L_law_bare_right ?d_law_bare_right ?K_law_bare_right ?b_law_right ?L_law_right ?d_law_right ?K_law_right ?b_law ?L_law ?d_law ?K_law
    (case z_ValueError => k_is)
    (case z_abs => k_is)
    (case z_all => k_is)
    (case z_divmod => k_is)
    (case z_isinstance => k_is)
    (case z_len => k_is)
    (case z_list => k_is)
    (case z_max => k_is)
    (case z_min => k_is)
    (case z_range => k_is)
    (case z_sorted => k_is)
    (case a_NetError => k_is)
    (case a_NoNet => k_is)
    (case a_NoText => k_is)
    (case a_NoMove => k_is)
    (case a_Held => k_is)
    (case a_Full => k_is)
    (case a_Crowded => k_is)
    (case a_NoSpot => k_is)
    (case a_Misfit => k_is)
    (case a_Apart => k_is)
    (case a_Twice => k_is)
    (case a_NoOccurrence => k_is)
    (case a_Clash => k_is)
    (case a_TooMany => k_is)
    (case a_NoPlace => k_is)
    (case a_NoRow => k_is)
    (case a_NoName => k_is)
    (case g1 => k_is)
    (case g2 => k_is)
    (case k_NetError => k_is)
    (case x_NetError => kernel_rfl)
    (case r_NetError => kernel_rfl)
    (case q_NetError => kernel_rfl)
    (case k_NoNet => k_is)
    (case x_NoNet => kernel_rfl)
    (case r_NoNet => kernel_rfl)
    (case q_NoNet => kernel_rfl)
    (case k_NoText => k_is)
    (case x_NoText => kernel_rfl)
    (case r_NoText => kernel_rfl)
    (case q_NoText => kernel_rfl)
    (case k_NoMove => k_is)
    (case x_NoMove => kernel_rfl)
    (case r_NoMove => kernel_rfl)
    (case i_NoMove => k_is)
    (case t_NoMove => k_is)
    (case l_NoMove => k_is)
    (case m_NoMove => kernel_rfl)
    (case s_NoMove => k_is)
    (case y_NoMove => k_is)
    (case k_Held => k_is)
    (case x_Held => kernel_rfl)
    (case r_Held => kernel_rfl)
    (case i_Held => k_is)
    (case t_Held => k_is)
    (case l_Held => k_is)
    (case m_Held => kernel_rfl)
    (case s_Held => k_is)
    (case y_Held => k_is)
    (case k_Full => k_is)
    (case x_Full => kernel_rfl)
    (case r_Full => kernel_rfl)
    (case i_Full => k_is)
    (case t_Full => k_is)
    (case l_Full => k_is)
    (case m_Full => kernel_rfl)
    (case s_Full => k_is)
    (case y_Full => k_is)
    (case k_Crowded => k_is)
    (case x_Crowded => kernel_rfl)
    (case r_Crowded => kernel_rfl)
    (case i_Crowded => k_is)
    (case t_Crowded => k_is)
    (case l_Crowded => k_is)
    (case m_Crowded => kernel_rfl)
    (case s_Crowded => k_is)
    (case y_Crowded => k_is)
    (case k_NoSpot => k_is)
    (case x_NoSpot => kernel_rfl)
    (case r_NoSpot => kernel_rfl)
    (case q_NoSpot => kernel_rfl)
    (case k_Misfit => k_is)
    (case x_Misfit => kernel_rfl)
    (case r_Misfit => kernel_rfl)
    (case q_Misfit => kernel_rfl)
    (case k_Apart => k_is)
    (case x_Apart => kernel_rfl)
    (case r_Apart => kernel_rfl)
    (case i_Apart => k_is)
    (case t_Apart => k_is)
    (case l_Apart => k_is)
    (case m_Apart => kernel_rfl)
    (case s_Apart => k_is)
    (case y_Apart => k_is)
    (case k_Twice => k_is)
    (case x_Twice => kernel_rfl)
    (case r_Twice => kernel_rfl)
    (case i_Twice => k_is)
    (case t_Twice => k_is)
    (case l_Twice => k_is)
    (case m_Twice => kernel_rfl)
    (case s_Twice => k_is)
    (case y_Twice => k_is)
    (case k_NoOccurrence => k_is)
    (case x_NoOccurrence => kernel_rfl)
    (case r_NoOccurrence => kernel_rfl)
    (case q_NoOccurrence => kernel_rfl)
    (case k_Clash => k_is)
    (case x_Clash => kernel_rfl)
    (case r_Clash => kernel_rfl)
    (case i_Clash => k_is)
    (case t_Clash => k_is)
    (case l_Clash => k_is)
    (case m_Clash => kernel_rfl)
    (case s_Clash => k_is)
    (case y_Clash => k_is)
    (case k_TooMany => k_is)
    (case x_TooMany => kernel_rfl)
    (case r_TooMany => kernel_rfl)
    (case q_TooMany => kernel_rfl)
    (case k_NoPlace => k_is)
    (case x_NoPlace => kernel_rfl)
    (case r_NoPlace => kernel_rfl)
    (case q_NoPlace => kernel_rfl)
    (case k_NoRow => k_is)
    (case x_NoRow => kernel_rfl)
    (case r_NoRow => kernel_rfl)
    (case q_NoRow => kernel_rfl)
    (case k_NoName => k_is)
    (case x_NoName => kernel_rfl)
    (case r_NoName => kernel_rfl)
    (case q_NoName => kernel_rfl)
    (case at_NoMove_at => k_is)
    (case at_Held_at => k_is)
    (case at_Full_at => k_is)
    (case at_Crowded_row => k_is)
    (case at_Apart_one => k_is)
    (case at_Apart_other => k_is)
    (case at_Twice_number => k_is)
    (case at_Clash_one => k_is)
    (case at_Clash_other => k_is)
    (case L_NoMove_init => k_is)
    (case d_NoMove_init => k_is)
    (case K_NoMove_init => k_is)
    (case L_Held_init => k_is)
    (case d_Held_init => k_is)
    (case K_Held_init => k_is)
    (case L_Full_init => k_is)
    (case d_Full_init => k_is)
    (case K_Full_init => k_is)
    (case L_Crowded_init => k_is)
    (case d_Crowded_init => k_is)
    (case K_Crowded_init => k_is)
    (case L_Apart_init => k_is)
    (case d_Apart_init => k_is)
    (case K_Apart_init => k_is)
    (case L_Twice_init => k_is)
    (case d_Twice_init => k_is)
    (case K_Twice_init => k_is)
    (case L_Clash_init => k_is)
    (case d_Clash_init => k_is)
    (case K_Clash_init => k_is)
    (case b_law_pot => k_is)
    (case L_law_pot => k_is)
    (case d_law_pot => k_is)
    (case K_law_pot => k_is)
    (case b_law_take => k_is)
    (case L_law_take => k_is)
    (case d_law_take => k_is)
    (case K_law_take => k_is)
    (case b_law_number => k_is)
    (case L_law_number => k_is)
    (case d_law_number => k_is)
    (case K_law_number => k_is)
    (case b_law_row => k_is)
    (case L_law_row => k_is)
    (case d_law_row => k_is)
    (case K_law_row => k_is)
    (case b_law_kinds => k_is)
    (case L_law_kinds => k_is)
    (case d_law_kinds => k_is)
    (case K_law_kinds => k_is)
    (case b_law_bare_right => k_is)
    (case L_law_bare_right => k_is)
    (case d_law_bare_right => k_is)
    (case K_law_bare_right => k_is)
    (case b_law_right => k_is)
    (case L_law_right => k_is)
    (case d_law_right => k_is)
    (case K_law_right => k_is)
    (case b_law => k_is)
    (case L_law => k_is)
    (case d_law => k_is)
    (case K_law => k_is)
