import PyProof.Rows.All
import HandS.Codes
import HandS.Comp
import HandS.Conv
import HandS.Defaults
import HandS.Dict
import HandS.DictComp
import HandS.EndBits
import HandS.ForMost
import HandS.Head0
import HandS.Head1
import HandS.Head2
import HandS.HeadEnd
import HandS.HeadHook2
import HandS.HeadHook4
import HandS.IsInst
import HandS.Iter
import HandS.SetFor
import HandS.SetTxt0
import HandS.Small
import HandS.SortKw
import HandS.Star
import HandS.Style
import HandS.TupAny
import HandS.TupLen
import HandS.TupSets
import KE.GoesEnum
import KE.GoesMore
import KE.GoesZip
import KE.KDictPairs
import KE.KStateDown
import KE.SortData
import PyProof.ReprRoads
import PySem.Challenge.RW_gradehouse_k66_whole_schemes
set_option Elab.async false
set_option linter.all false
set_option maxRecDepth 100000
set_option maxHeartbeats 0
namespace Gd
open PySem PySem.Spec L2
inductive W where
  | d (x : PyData)
  | r (l : Nat)
  | f (n : Nat)
  | s (ns : List Int)
inductive Bx where
  | lst (xs : List PyData)
  | dct (kvs : List (PyData × PyData))
  | dead
abbrev Sto := List Bx
abbrev Rho := List (Option W)
inductive Res (α : Type) where
  | ok (a : α) (s : Sto)
  | exc (c : Nat) (d : PyData) (s : Sto)
  | bad
def M (α : Type) : Type := Sto → Res α
def M.pure {α : Type} (a : α) : M α := fun s => .ok a s
def M.bind {α β : Type} (m : M α) (k : α → M β) : M β := fun s => match m s with
  | .ok a s' => k a s'
  | .exc c d s' => .exc c d s'
  | .bad => .bad
instance : Monad M where
  pure := M.pure
  bind := M.bind
def M.bad {α : Type} : M α := fun _ => .bad
def M.chk (b : Bool) : M Unit := fun s => if b then .ok () s else .bad
def SZ : Nat := 16777216
theorem SZ_eq : SZ = sizeLine := sizeLine_eq.symm
def keyD : Key → PyData
  | .inl i => .int i
  | .inr x => .str x
def tkeyD (k : List Key) : PyData := .tuple (k.map keyD)
section
variable (K : PySem.W.Frag) (H : Hp) (L : Addr → Prop)
def KLst (a : Addr) (xs : List V) : Prop := ∃ (o : Obj) (its : Array Value) (n : Nat), K.lookup a = some o ∧ o.cls = .type "list" ∧ o.dict = none ∧ o.data = .seq its n ∧ its.size ≤ sizeLine ∧ Vals xs its.toList
def TpQ (a : Addr) (xs : List V) : Prop := (∃ o : Obj, H a = some (.frz o (.tup xs)) ∧ o.dict = none) ∨ ∃ (o : Obj) (its : Array Value) (n : Nat), K.lookup a = some o ∧ o.cls = .type "tuple" ∧ o.dict = none ∧ o.data = .seq its n ∧ its.size ≤ sizeLine ∧ Vals xs its.toList
def isDct : HO → Bool
  | .dK _ => true
  | .dT _ => true
  | _ => false
mutual
inductive Dr : V → PyData → Prop
  | non : Dr .non .none
  | bl (b : Bool) : Dr (.bl b) (.bool b)
  | int (i : Int) : Dr (.int i) (.int i)
  | str (x : Str) : Dr (.str x) (.str x)
  | lst {a : Addr} {xs : List V} {ds : List PyData} : H a = some (.lst xs) → ¬ L a → DrL xs ds → Dr (.ref a) (.list ds)
  | tup {a : Addr} {xs : List V} {ds : List PyData} : TpQ K H a xs → DrL xs ds → Dr (.ref a) (.tuple ds)
  | dK {a : Addr} {kvs : List (Key × V)} {ds : List (PyData × PyData)} : Rd H a (.dK kvs) → ¬ L a → ds.map (·.1) = kvs.map (fun p => keyD p.1) → DrL (kvs.map (·.2)) (ds.map (·.2)) → Dr (.ref a) (.dict ds)
  | dT {a : Addr} {kvs : List (List Key × V)} {ds : List (PyData × PyData)} : Rd H a (.dT kvs) → kvs ≠ [] → ¬ L a → ds.map (·.1) = kvs.map (fun p => tkeyD p.1) → DrL (kvs.map (·.2)) (ds.map (·.2)) → Dr (.ref a) (.dict ds)
inductive DrL : List V → List PyData → Prop
  | nil : DrL [] []
  | cons {v : V} {vs : List V} {d : PyData} {ds : List PyData} : Dr v d → DrL vs ds → DrL (v :: vs) (d :: ds)
end
end
section
variable {K : PySem.W.Frag} {H H' : Hp} {L L' : Addr → Prop}
structure Ext (H : Hp) (L : Addr → Prop) (H' : Hp) (L' : Addr → Prop) : Prop where
  old : ∀ a o, H a = some o → ¬ L a → (∀ ps, o ≠ .tbl ps) → (H' a = some o ∨ (isDct o = true ∧ ∃ ob, H' a = some (.frz ob o))) ∧ ¬ L' a
  frz : ∀ a o u, H a = some (.frz o u) → H' a = some (.frz o u)
theorem Ext.refl : Ext H L H L := ⟨fun _ _ h n _ => ⟨.inl h, n⟩, fun _ _ _ h => h⟩
theorem Ext.sub (s : ∀ a, L' a → L a) : Ext H L H L' := ⟨fun _ _ e n _ => ⟨.inl e, fun z => n (s _ z)⟩, fun _ _ _ e => e⟩
theorem Ext.trans {H1 H2 H3 : Hp} {L1 L2 L3 : Addr → Prop} (a : Ext H1 L1 H2 L2) (b : Ext H2 L2 H3 L3) : Ext H1 L1 H3 L3 := by
  refine ⟨fun x o h n t => ?_, fun x o u h => b.frz x o u (a.frz x o u h)⟩
  obtain ⟨p, q⟩ := a.old x o h n t
  rcases p with p | ⟨d, ob, p⟩
  · exact b.old x o p q t
  · exact ⟨.inr ⟨d, ob, b.frz _ _ _ p⟩, (b.old x _ p q (fun ps z => by cases z)).2⟩
theorem Ext.st {a : Addr} {u : HO} (e : Ext H L H' L') (h : H a = some u) (n : ¬ L a) (t : ∀ ps, u ≠ .tbl ps) (d : isDct u = false) : H' a = some u ∧ ¬ L' a := by
  obtain ⟨p, q⟩ := e.old a u h n t
  refine ⟨p.elim id fun ⟨z, _⟩ => ?_, q⟩
  rw [d] at z
  cases z
theorem Ext.rd {a : Addr} {u : HO} (e : Ext H L H' L') (h : Rd H a u) (n : ¬ L a) (t : ∀ ps, u ≠ .tbl ps) : Rd H' a u ∧ ¬ L' a := by
  rcases h with h | ⟨o, h⟩
  · obtain ⟨p, q⟩ := e.old a _ h n t
    exact ⟨p.elim .inl fun ⟨_, ob, p⟩ => .inr ⟨ob, p⟩, q⟩
  · exact ⟨.inr ⟨o, e.frz a o u h⟩, (e.old a _ h n (fun ps z => by cases z)).2⟩
theorem TpQ.sqt {a : Addr} {xs : List V} (h : TpQ K H a xs) : SqT K H a xs := h.elim (fun ⟨o, h, _⟩ => .inl (.inr ⟨o, h⟩)) fun ⟨o, its, n, a, b, _, c⟩ => .inr ⟨o, its, n, a, b, c⟩
theorem Ext.sqt {a : Addr} {xs : List V} (e : Ext H L H' L') (h : TpQ K H a xs) : TpQ K H' a xs := h.elim (fun ⟨o, h, d⟩ => .inl ⟨o, e.frz _ _ _ h, d⟩) .inr
mutual
theorem Dr.ext (e : Ext H L H' L') : ∀ {v : V} {d : PyData}, Dr K H L v d → Dr K H' L' v d
  | _, _, .non => .non
  | _, _, .bl b => .bl b
  | _, _, .int i => .int i
  | _, _, .str x => .str x
  | _, _, .lst r n h => let ⟨p, q⟩ := e.st r n (fun _ z => by cases z) rfl; .lst p q (DrL.ext e h)
  | _, _, .tup s h => .tup (e.sqt s) (DrL.ext e h)
  | _, _, .dK r n k h => let ⟨p, q⟩ := e.rd r n (fun _ z => by cases z); .dK p q k (DrL.ext e h)
  | _, _, .dT r ne n k h => let ⟨p, q⟩ := e.rd r n (fun _ z => by cases z); .dT p ne q k (DrL.ext e h)
theorem DrL.ext (e : Ext H L H' L') : ∀ {vs : List V} {ds : List PyData}, DrL K H L vs ds → DrL K H' L' vs ds
  | _, _, .nil => .nil
  | _, _, .cons h t => .cons (Dr.ext e h) (DrL.ext e t)
end
theorem Dr.mono {v : V} {d : PyData} (h : Dr K H L v d) (s : ∀ a, L' a → L a) : Dr K H L' v d := Dr.ext (Ext.sub s) h
theorem DrL.mono {vs : List V} {ds : List PyData} (h : DrL K H L vs ds) (s : ∀ a, L' a → L a) : DrL K H L' vs ds := DrL.ext (Ext.sub s) h
theorem DrL.length : ∀ {vs : List V} {ds : List PyData}, DrL K H L vs ds → vs.length = ds.length
  | _, _, .nil => rfl
  | _, _, .cons _ t => by simp [DrL.length t]
theorem DrL.append : ∀ {vs ws : List V} {ds es : List PyData}, DrL K H L vs ds → DrL K H L ws es → DrL K H L (vs ++ ws) (ds ++ es)
  | _, _, _, _, .nil, b => b
  | _, _, _, _, .cons h t, b => .cons h (DrL.append t b)
theorem DrL.get : ∀ {vs : List V} {ds : List PyData} {i : Nat} {d : PyData}, DrL K H L vs ds → ds[i]? = some d → ∃ v, vs[i]? = some v ∧ Dr K H L v d
  | _, _, _, _, .nil, e => by simp at e
  | _, _, 0, _, .cons h t, e => by simp at e; subst e; exact ⟨_, rfl, h⟩
  | _, _, i + 1, _, .cons h t, e => by
    obtain ⟨v, p, q⟩ := DrL.get (i := i) t (by simpa using e)
    exact ⟨v, by simpa using p, q⟩
theorem DrL.getV : ∀ {vs : List V} {ds : List PyData} {i : Nat} {v : V}, DrL K H L vs ds → vs[i]? = some v → ∃ d, ds[i]? = some d ∧ Dr K H L v d
  | _, _, _, _, .nil, e => by simp at e
  | _, _, 0, _, .cons h t, e => by simp at e; subst e; exact ⟨_, rfl, h⟩
  | _, _, i + 1, _, .cons h t, e => by
    obtain ⟨v, p, q⟩ := DrL.getV (i := i) t (by simpa using e)
    exact ⟨v, by simpa using p, q⟩
theorem DrL.take : ∀ {vs : List V} {ds : List PyData} (n : Nat), DrL K H L vs ds → DrL K H L (vs.take n) (ds.take n)
  | _, _, 0, _ => .nil
  | _, _, _ + 1, .nil => .nil
  | _, _, n + 1, .cons h t => .cons h (DrL.take n t)
theorem DrL.drop : ∀ {vs : List V} {ds : List PyData} (n : Nat), DrL K H L vs ds → DrL K H L (vs.drop n) (ds.drop n)
  | _, _, 0, h => h
  | _, _, _ + 1, .nil => .nil
  | _, _, n + 1, .cons _ t => DrL.drop n t
theorem DrL.set {v : V} {d : PyData} (h : Dr K H L v d) : ∀ {vs : List V} {ds : List PyData} (i : Nat), DrL K H L vs ds → DrL K H L (vs.set i v) (ds.set i d)
  | _, _, _, .nil => .nil
  | _, _, 0, .cons _ t => .cons h t
  | _, _, i + 1, .cons q t => .cons q (DrL.set h i t)
theorem DrL.eraseIdx : ∀ {vs : List V} {ds : List PyData} (i : Nat), DrL K H L vs ds → DrL K H L (vs.eraseIdx i) (ds.eraseIdx i)
  | _, _, _, .nil => .nil
  | _, _, 0, .cons _ t => t
  | _, _, i + 1, .cons q t => .cons q (DrL.eraseIdx i t)
theorem DrL.dropLast {vs : List V} {ds : List PyData} (h : DrL K H L vs ds) : DrL K H L vs.dropLast ds.dropLast := by
  rw [List.dropLast_eq_take, List.dropLast_eq_take, h.length]
  exact h.take _
theorem DrL.reverse : ∀ {vs : List V} {ds : List PyData}, DrL K H L vs ds → DrL K H L vs.reverse ds.reverse
  | _, _, .nil => .nil
  | _, _, .cons h t => by
    rw [List.reverse_cons, List.reverse_cons]
    exact DrL.append (DrL.reverse t) (.cons h .nil)
theorem DrL.ints {vs : List V} {ns : List Int} (h : DrL K H L vs (ns.map .int)) : vs = ns.map V.int := by
  induction ns generalizing vs with
  | nil => cases h; rfl
  | cons n r ih =>
    cases h with
    | cons h t => cases h; rw [List.map_cons, ih t]
theorem DrL.of_ints : ∀ ns : List Int, DrL K H L (ns.map V.int) (ns.map .int)
  | [] => .nil
  | n :: r => .cons (.int n) (DrL.of_ints r)
theorem DrL.strs {vs : List V} {ns : List Str} (h : DrL K H L vs (ns.map .str)) : vs = ns.map V.str := by
  induction ns generalizing vs with
  | nil => cases h; rfl
  | cons n r ih =>
    cases h with
    | cons h t => cases h; rw [List.map_cons, ih t]
theorem DrL.of_strs : ∀ ns : List Str, DrL K H L (ns.map V.str) (ns.map .str)
  | [] => .nil
  | n :: r => .cons (.str n) (DrL.of_strs r)
theorem DrL.bools {vs : List V} {ns : List Bool} (h : DrL K H L vs (ns.map .bool)) : vs = ns.map V.bl := by
  induction ns generalizing vs with
  | nil => cases h; rfl
  | cons n r ih =>
    cases h with
    | cons h t => cases h; rw [List.map_cons, ih t]
theorem Dr.list_inv {v : V} {ds : List PyData} (h : Dr K H L v (.list ds)) : ∃ a xs, v = .ref a ∧ H a = some (.lst xs) ∧ ¬ L a ∧ DrL K H L xs ds := by
  cases h with
  | lst r n h => exact ⟨_, _, rfl, r, n, h⟩
theorem Dr.tup_inv {v : V} {ds : List PyData} (h : Dr K H L v (.tuple ds)) : ∃ a xs, v = .ref a ∧ TpQ K H a xs ∧ DrL K H L xs ds := by
  cases h with
  | tup r h => exact ⟨_, _, rfl, r, h⟩
theorem Ext.new {p : Addr} {o : HO} (hp : H p = none) (s : ∀ a, L' a → L a ∨ a = p) : Ext H L (upd H p o) L' :=
  ⟨fun a u e n _ => ⟨.inl (by rw [upd_ne (ne_of_none e hp)]; exact e), fun z => (s a z).elim n fun q => by rw [q, hp] at e; cases e⟩, fun a o u e => by rw [upd_ne (ne_of_none e hp)]; exact e⟩
theorem Ext.wr {p : Addr} {o u : HO} (hp : H p = some u) (hl : L p) (nt : ∀ o xs, u ≠ .frz o xs) (s : ∀ a, L' a → L a) : Ext H L (upd H p o) L' := by
  refine ⟨fun a w e n _ => ⟨.inl ?_, fun z => n (s a z)⟩, fun a o xs e => ?_⟩
  · rw [upd_ne (fun z => n (by rw [z]; exact hl))]
    exact e
  · rw [upd_ne (fun z => by rw [z, hp] at e; exact nt o xs (Option.some.inj e))]
    exact e
theorem Ext.freeze {p : Addr} {o : Obj} {u : HO} (hp : H p = some u) (hd : isDct u = true) (s : ∀ a, L' a → L a) : Ext H L (upd H p (.frz o u)) L' := by
  refine ⟨fun a w e n _ => ⟨?_, fun z => n (s a z)⟩, fun a o xs e => ?_⟩
  · by_cases z : a = p
    · subst z
      rw [hp] at e
      cases e
      exact .inr ⟨hd, o, upd_same⟩
    · exact .inl (by rw [upd_ne z]; exact e)
  · rw [upd_ne (fun z => by rw [z, hp] at e; cases e; cases hd)]
    exact e
end
def Lv (j : List Addr) (st : Sto) (a : Addr) : Prop := ∃ (i : Nat) (c : Bx), j[i]? = some a ∧ st[i]? = some c ∧ c ≠ .dead
def Lz (j : List Addr) (st : Sto) (Z : Addr → Prop) (a : Addr) : Prop := Lv j st a ∨ Z a
def BxOk (K : PySem.W.Frag) (H : Hp) (L : Addr → Prop) (a : Addr) : Bx → Prop
  | .lst ds => ∃ vs, H a = some (.lst vs) ∧ DrL K H L vs ds
  | .dct ds => ∃ kvs : List (Key × V), H a = some (.dK kvs) ∧ ds.map (·.1) = kvs.map (fun p => keyD p.1) ∧ DrL K H L (kvs.map (·.2)) (ds.map (·.2))
  | .dead => True
structure Rel (K : PySem.W.Frag) (H : Hp) (j : List Addr) (st : Sto) (Z : Addr → Prop) : Prop where
  len : j.length = st.length
  inj : ∀ (i i' : Nat) (a : Addr) (c c' : Bx), j[i]? = some a → j[i']? = some a → st[i]? = some c → st[i']? = some c' → c ≠ .dead → c' ≠ .dead → i = i'
  cell : ∀ (i : Nat) (a : Addr) (c : Bx), j[i]? = some a → st[i]? = some c → BxOk K H (Lz j st Z) a c
  own : ∀ a, Z a → ¬ Lv j st a ∧ ∃ o, H a = some o
structure Keep (H : Hp) (j : List Addr) (st : Sto) (H' : Hp) (j' : List Addr) (st' : Sto) : Prop where
  ext : Ext H (Lv j st) H' (Lv j' st')
  rf : ∀ (l : Nat) (a : Addr), j[l]? = some a → j'[l]? = some a
def Wr (K : PySem.W.Frag) (mg : Str → Option Value) (nm : Nat → Str) (H : Hp) (j : List Addr) (st : Sto) (Z : Addr → Prop) (v : V) : W → Prop
  | .d x => Dr K H (Lz j st Z) v x
  | .r l => ∃ a, v = .ref a ∧ j[l]? = some a
  | .f n => ∃ a, v = .ref a ∧ mg (nm n) = some (.ref a)
  | .s ns => ∃ a, v = .ref a ∧ ((∃ o, H a = some (.frz o (.lst (ns.map V.int))) ∧ ¬ Lz j st Z a) ∨ KLst K a (ns.map V.int))
section
variable {K : PySem.W.Frag} {mg : Str → Option Value} {nm : Nat → Str} {H H' H1 H2 : Hp} {j j' j1 j2 : List Addr} {st st' st1 st2 : Sto} {Z : Addr → Prop}
theorem Keep.refl : Keep H j st H j st := ⟨Ext.refl, fun _ _ h => h⟩
theorem Keep.trans (a : Keep H j st H1 j1 st1) (b : Keep H1 j1 st1 H2 j2 st2) : Keep H j st H2 j2 st2 := ⟨a.ext.trans b.ext, fun l x h => b.rf l x (a.rf l x h)⟩
theorem Keep.extZ (k : Keep H j st H' j' st') : Ext H (Lz j st Z) H' (Lz j' st' Z) :=
  ⟨fun a o e n t => let ⟨p, q⟩ := k.ext.old a o e (fun z => n (.inl z)) t; ⟨p, fun z => z.elim q fun z => n (.inr z)⟩, k.ext.frz⟩
theorem Keep.dr (k : Keep H j st H' j' st') {v : V} {d : PyData} (h : Dr K H (Lz j st Z) v d) : Dr K H' (Lz j' st' Z) v d := h.ext k.extZ
theorem Keep.drL (k : Keep H j st H' j' st') {v : List V} {d : List PyData} (h : DrL K H (Lz j st Z) v d) : DrL K H' (Lz j' st' Z) v d := h.ext k.extZ
theorem Keep.wr (k : Keep H j st H' j' st') {v : V} {w : W} (h : Wr K mg nm H j st Z v w) : Wr K mg nm H' j' st' Z v w := by
  cases w with
  | d x => exact k.dr h
  | r l => obtain ⟨a, e, p⟩ := h; exact ⟨a, e, k.rf l a p⟩
  | f n => exact h
  | s ns =>
    obtain ⟨a, e, p⟩ := h
    refine ⟨a, e, p.elim (fun ⟨o, h, n⟩ => .inl ?_) .inr⟩
    exact ⟨o, k.ext.frz _ _ _ h, (k.extZ.old a _ h n (fun ps z => by cases z)).2⟩
end
inductive WrL (K : PySem.W.Frag) (mg : Str → Option Value) (nm : Nat → Str) (H : Hp) (j : List Addr) (st : Sto) (Z : Addr → Prop) : List V → List W → Prop
  | nil : WrL K mg nm H j st Z [] []
  | cons {v : V} {vs : List V} {w : W} {ws : List W} : Wr K mg nm H j st Z v w → WrL K mg nm H j st Z vs ws → WrL K mg nm H j st Z (v :: vs) (w :: ws)
structure Slots (K : PySem.W.Frag) (mg : Str → Option Value) (nm : Nat → Str) (H : Hp) (j : List Addr) (st : Sto) (Z : Addr → Prop) (σ : L2.St) (ρ : Rho) : Prop where
  len : σ.length = ρ.length
  at_ : ∀ (i : Nat) (w : W), ρ[i]? = some (some w) → ∃ v, σ[i]? = some (some v) ∧ Wr K mg nm H j st Z v w
section
variable {K : PySem.W.Frag} {mg : Str → Option Value} {nm : Nat → Str} {H H' : Hp} {j j' : List Addr} {st st' : Sto} {Z : Addr → Prop}
theorem WrL.length : ∀ {vs : List V} {ws : List W}, WrL K mg nm H j st Z vs ws → vs.length = ws.length
  | _, _, .nil => rfl
  | _, _, .cons _ t => by simp [WrL.length t]
theorem Keep.wrL (k : Keep H j st H' j' st') : ∀ {vs : List V} {ws : List W}, WrL K mg nm H j st Z vs ws → WrL K mg nm H' j' st' Z vs ws
  | _, _, .nil => .nil
  | _, _, .cons h t => .cons (k.wr h) (Keep.wrL k t)
theorem Keep.slots (k : Keep H j st H' j' st') {σ : L2.St} {ρ : Rho} (s : Slots K mg nm H j st Z σ ρ) : Slots K mg nm H' j' st' Z σ ρ :=
  ⟨s.len, fun i w h => let ⟨v, p, q⟩ := s.at_ i w h; ⟨v, p, k.wr q⟩⟩
theorem Slots.set {σ : L2.St} {ρ : Rho} (s : Slots K mg nm H j st Z σ ρ) (i : Nat) {v : V} {w : W} (h : Wr K mg nm H j st Z v w) : Slots K mg nm H j st Z (σ.set i (some v)) (ρ.set i (some w)) := by
  refine ⟨by simp [s.len], fun k u e => ?_⟩
  by_cases hk : i = k
  · subst hk
    by_cases hi : i < ρ.length
    · rw [List.getElem?_set_self hi] at e
      cases e
      exact ⟨v, by rw [List.getElem?_set_self (by rw [s.len]; exact hi)], h⟩
    · rw [List.getElem?_eq_none (by simpa using hi)] at e
      cases e
  · rw [List.getElem?_set_ne hk] at e
    obtain ⟨v', p, q⟩ := s.at_ k u e
    exact ⟨v', by rw [List.getElem?_set_ne hk]; exact p, q⟩
theorem Slots.wipe1 {σ : L2.St} {ρ : Rho} (s : Slots K mg nm H j st Z σ ρ) (i : Nat) : Slots K mg nm H j st Z (σ.set i none) (ρ.set i none) := by
  refine ⟨by simp [s.len], fun k u e => ?_⟩
  by_cases hk : i = k
  · subst hk
    by_cases hi : i < ρ.length
    · rw [List.getElem?_set_self hi] at e
      cases e
    · rw [List.getElem?_eq_none (by simpa using hi)] at e
      cases e
  · rw [List.getElem?_set_ne hk] at e
    obtain ⟨v', p, q⟩ := s.at_ k u e
    exact ⟨v', by rw [List.getElem?_set_ne hk]; exact p, q⟩
def wipeR (ρ : Rho) : List Nat → Rho
  | [] => ρ
  | v :: vs => (wipeR ρ vs).set v none
theorem Slots.wipe {σ : L2.St} {ρ : Rho} (s : Slots K mg nm H j st Z σ ρ) : ∀ vs : List Nat, Slots K mg nm H j st Z (wipe σ vs) (wipeR ρ vs)
  | [] => s
  | v :: vs => by
    unfold L2.wipe wipeR
    exact (Slots.wipe s vs).wipe1 v
end
end Gd
namespace Gd
open PySem PySem.Spec L2
inductive BOp where
  | add | sub | mul | fdiv | mod | pow
  deriving DecidableEq
inductive COp where
  | eq | ne | lt | le | gt | ge | is | isnot | isin | notin
  deriving DecidableEq
inductive Bi where
  | len | abs | int | max2 | min2 | sum | all | any | repr | tuple | divmod
  deriving DecidableEq
def small (i : Int) : Bool := decide (-(2 ^ 64) < i) && decide (i < 2 ^ 64)
def binD : BOp → PyData → PyData → Option PyData
  | .add, .int i, .int j => some (.int (i + j))
  | .add, .str x, .str y => if x.length + y.length ≤ SZ then some (.str (x ++ y)) else none
  | .add, .tuple xs, .tuple ys => if xs.length + ys.length ≤ SZ then some (.tuple (xs ++ ys)) else none
  | .add, .list xs, .list ys => if xs.length + ys.length ≤ SZ then some (.list (xs ++ ys)) else none
  | .sub, .int i, .int j => some (.int (i - j))
  | .mul, .int i, .int j => if small i || small j then some (.int (i * j)) else none
  | .mul, .str x, .int k => if 0 ≤ k ∧ k ≤ 1000 ∧ x.length ≤ 1000 then some (.str (Txt.mul x k)) else none
  | .mul, .list xs, .int k => if 0 ≤ k ∧ k ≤ 1000 ∧ xs.length * k.toNat ≤ SZ then some (.list (List.replicate k.toNat xs).flatten) else none
  | .fdiv, .int i, .int j => if j ≠ 0 ∧ j.natAbs < 1073741824 then some (.int (i.fdiv j)) else none
  | .mod, .int i, .int j => if j ≠ 0 then some (.int (i.fmod j)) else none
  | .pow, .int i, .int j => if 0 ≤ j ∧ j ≤ 1000000 ∧ i.natAbs < 2 ^ 64 then some (.int (i ^ j.toNat)) else none
  | _, _, _ => none
def flatD : PyData → Bool
  | .none | .bool _ | .int _ | .str _ => true
  | _ => false
def hasKey (k : PyData) (kvs : List (PyData × PyData)) : Bool := kvs.any fun p => PyData.eqv p.1 k
def getKey (k : PyData) : List (PyData × PyData) → Option PyData
  | [] => none
  | (a, v) :: r => if PyData.eqv a k then some v else getKey k r
def flatK (p : PyData × PyData) : Bool := match p.1 with
  | .int _ | .str _ => true
  | _ => false
def putD (k v : PyData) (kvs : List (PyData × PyData)) : List (PyData × PyData) := if kvs.any fun p => PyData.eqv p.1 k then kvs.map fun p => if PyData.eqv p.1 k then (p.1, v) else p else kvs ++ [(k, v)]
def inD (x : PyData) : PyData → Option Bool
  | .str z => match x with
    | .str y => some (!(Builtin.Str.occurrences z y 0 z.length 1).isEmpty)
    | _ => none
  | .list xs => if flatD x && xs.all flatD then some (xs.any fun y => PyData.eqv y x) else none
  | .tuple xs => if flatD x && xs.all flatD then some (xs.any fun y => PyData.eqv y x) else none
  | .dict kvs => match x with
    | .int _ => if kvs.all flatK then some (hasKey x kvs) else none
    | .str _ => if kvs.all flatK then some (hasKey x kvs) else none
    | _ => none
  | _ => none
def strLt (x y : Str) : Bool := decide (x.cps.toList < y.cps.toList)
def bothStr : PyData → PyData → Bool
  | .str _, .str _ => true
  | _, _ => false
def cmpD : COp → PyData → PyData → Option Bool
  | .eq, x, y => if bothStr x y || (SeqAt.shaped x && SeqAt.shaped y) then some (PyData.eqv x y) else none
  | .ne, x, y => if bothStr x y || (SeqAt.shaped x && SeqAt.shaped y) then some (!PyData.eqv x y) else none
  | .lt, .int i, .int j => some (decide (i < j))
  | .le, .int i, .int j => some (decide (i ≤ j))
  | .gt, .int i, .int j => some (decide (j < i))
  | .ge, .int i, .int j => some (decide (j ≤ i))
  | .lt, .str x, .str y => some (strLt x y)
  | .is, x, .none => some (match x with | .none => true | _ => false)
  | .isnot, x, .none => some (match x with | .none => false | _ => true)
  | .isin, x, y => inD x y
  | .notin, x, y => (inD x y).map (!·)
  | _, _, _ => none
abbrev ixD (n : Nat) (i : Int) : Option Nat := ixN n i
def idxD : PyData → PyData → Option PyData
  | .tuple xs, .int i => (ixD xs.length i).bind fun k => xs[k]?
  | .list xs, .int i => (ixD xs.length i).bind fun k => xs[k]?
  | .str z, .int i => if z.length ≤ SZ then ((ixD z.length i).bind fun k => z.cps.toList[k]?).map fun c => .str ⟨#[c]⟩ else none
  | .dict kvs, .int i => getKey (.int i) kvs
  | .dict kvs, .str x => getKey (.str x) kvs
  | _, _ => none
def cutD {α : Type} (xs : List α) (lo hi : Option Int) : List α := (xs.drop (HT.sIx xs.length 0 lo)).take (HT.sIx xs.length xs.length hi - HT.sIx xs.length 0 lo)
def slcD (lo hi : Option Int) : PyData → Option PyData
  | .tuple xs => some (.tuple (cutD xs lo hi))
  | .list xs => some (.list (cutD xs lo hi))
  | .str z => if z.length ≤ SZ then some (.str ⟨(cutD z.cps.toList lo hi).toArray⟩) else none
  | _ => none
def lenD : PyData → Option Nat
  | .tuple xs => some xs.length
  | .list xs => some xs.length
  | .dict kvs => some kvs.length
  | .str z => if z.length ≤ SZ then some z.length else none
  | _ => none
def intsD : List PyData → Option (List Int)
  | [] => some []
  | .int i :: r => (intsD r).map (i :: ·)
  | _ => none
def boolsD : List PyData → Option (List Bool)
  | [] => some []
  | .bool i :: r => (boolsD r).map (i :: ·)
  | _ => none
def strsD : List PyData → Option (List Str)
  | [] => some []
  | .str i :: r => (strsD r).map (i :: ·)
  | _ => none
def biD : Bi → List PyData → Option PyData
  | .len, [x] => (lenD x).map fun (n : Nat) => .int (n : Int)
  | .abs, [.int i] => some (.int (if i < 0 then -i else i))
  | .int, [.int i] => some (.int i)
  | .max2, [.int i, .int j] => some (.int (if j > i then j else i))
  | .min2, [.int i, .int j] => some (.int (if j < i then j else i))
  | .sum, [.list xs] => (intsD xs).map fun ns => .int ns.sum
  | .all, [.list xs] => (boolsD xs).map fun bs => .bool (bs.all id)
  | .any, [.list xs] => (boolsD xs).map fun bs => .bool (bs.any id)
  | .repr, [x] => if x.showable && decide (x.shown.length ≤ SZ) && decide (x.depth ≤ 64) && x.canLay0 then some (.str x.shown) else none
  | .tuple, [.list xs] => some (.tuple xs)
  | .tuple, [.tuple xs] => some (.tuple xs)
  | .divmod, [.int i, .int j] => if 0 < j ∧ j < 1073741824 then some (.tuple [.int (i / j), .int (i % j)]) else none
  | _, _ => none
def tyD : PyData → String
  | .none => "NoneType"
  | .bool _ => "bool"
  | .int _ => "int"
  | .str _ => "str"
  | .list _ => "list"
  | .tuple _ => "tuple"
  | .dict _ => "dict"
inductive Ty where
  | int | bool | str | tuple
  deriving DecidableEq
def isiD : Ty → PyData → Bool
  | .int, .int _ => true
  | .int, .bool _ => true
  | .bool, .bool _ => true
  | .str, .str _ => true
  | .tuple, .tuple _ => true
  | _, _ => false
def seqD : PyData → Option (List PyData)
  | .list xs => some xs
  | .tuple xs => some xs
  | .str z => if z.length ≤ SZ then some (z.cps.toList.map fun c => .str ⟨#[c]⟩) else none
  | _ => none
def rangeD (lo hi : Int) : List PyData := (List.range (hi - lo).toNat).map fun (i : Nat) => .int (lo + i)
def pairsD (xs ys : List PyData) : List PyData := List.zipWith (fun x y => .tuple [x, y]) xs ys
def enumD (xs : List PyData) : List PyData := xs.zipIdx.map fun p => .tuple [.int p.2, p.1]
def tupNE : PyData → Bool
  | .tuple (_ :: _) => true
  | _ => false
def notTN : PyData → Bool
  | .tuple _ => false
  | .none => false
  | _ => true
def okSort (xs : List PyData) : Bool := decide (xs.length ≤ SZ) && xs.all (fun d => d.canLay0 && decide (d.depth ≤ 64)) && xs.all (fun d => xs.all fun e => PySem.W.alike d e) && (xs.all tupNE || xs.all notTN)
def okOnce (xs : List PyData) : Bool := decide (xs.length ≤ 1000) && ((intsD xs).isSome || (strsD xs).isSome)
def sortD (rev : Bool) (xs : List PyData) : List PyData := xs.mergeSort (PySem.W.dataLe rev id)
def onceD : List PyData → List PyData
  | [] => []
  | x :: r => if (onceD r).any (PyData.eqv x) then onceD r else x :: onceD r
def dctD : List PyData → Option (List (PyData × PyData))
  | [] => some []
  | .tuple [.str k, v] :: r => (dctD r).map ((.str k, v) :: ·)
  | .tuple [.int k, v] :: r => (dctD r).map ((.int k, v) :: ·)
  | _ => none
mutual
inductive E where
  | var (i : Nat)
  | cst (d : PyData)
  | gc (x : Str) (d : PyData)
  | gf (f : Nat)
  | bin (o : BOp) (a b : E)
  | neg (a : E)
  | nt (a : E)
  | an (a b : E)
  | or_ (a b : E)
  | cmp (o : COp) (a b : E)
  | cmp2 (o o' : COp) (a b c : E)
  | ite (c a b : E)
  | tup (es : Es)
  | frz (l : Lf)
  | cell (l : Lf)
  | idx (a b : E)
  | slc (a : E) (lo hi : Es)
  | call (f : Nat) (es : Es)
  | callk (f : Nat) (es ks : Es) (ps : List Nat)
  | callv (i : Nat) (es : Es)
  | bi (b : Bi) (es : Es)
  | isi (t : Ty) (a : E)
  | dct (a : E)
  | dcomp (own : List (Str × Nat)) (t : Tg) (it : It) (c : Es) (k e : E)
  | dctC (a : E)
  | app (i : Nat) (a : E)
  | ext (i : Nat) (a : E)
  | pop (i : Nat) (a : E)
  | fz (a : E)
  | scl (a : E)
  | sci (a b : E)
inductive Lf where
  | scs (a : E) (h : Es)
  | disp (es : Es)
  | comp (own : List (Str × Nat)) (t : Tg) (it : It) (c : Es) (e : E)
  | listOf (a : E)
  | sorted (rev : Bool) (a : E)
  | sortedSet (a : E)
  | rev (a : E)
  | slcL (a : E) (lo hi : Es)
  | cat (a b : E)
inductive Es where
  | nil
  | cons (e : E) (r : Es)
  | star (e : E) (r : Es)
inductive It where
  | seq (a : E)
  | range1 (a : E)
  | range2 (a b : E)
  | enum (a : E)
  | zip (a b : E)
inductive Tg where
  | nm (i : Nat)
  | tp (ts : Tgs)
  | sub (i : Nat) (e : E)
  | put (i : Nat) (e : E)
inductive Tgs where
  | nil
  | cons (t : Tg) (r : Tgs)
end
mutual
inductive S where
  | asg (t : Tg) (e : E)
  | par (i j : Nat) (a b : E)
  | par3 (i j l : Nat) (a b c : E)
  | ex (e : E)
  | ret (e : E)
  | iff (c : E) (t f : Ss)
  | for_ (t : Tg) (it : It) (b : Ss)
  | wh (c : E) (b : Ss)
  | never
inductive Ss where
  | nil
  | cons (s : S) (r : Ss)
end
def Tgs.len : Tgs → Nat
  | .nil => 0
  | .cons _ r => r.len + 1
def ofO {α : Type} : Option α → M α
  | some a => M.pure a
  | none => M.bad
def rd : W → M PyData
  | .d x => M.pure x
  | .r l => fun s => match s[l]? with
    | some (.lst xs) => .ok (.list xs) s
    | some (.dct kvs) => .ok (.dict kvs) s
    | _ => .bad
  | _ => M.bad
def fzW : W → M PyData
  | .d x => M.pure x
  | .r l => fun s => match s[l]? with
    | some (.lst xs) => .ok (.list xs) (s.set l .dead)
    | some (.dct kvs) => .ok (.dict kvs) (s.set l .dead)
    | _ => .bad
  | _ => M.bad
def rdL : List W → M (List PyData)
  | [] => M.pure []
  | w :: r => do let x ← rd w; let xs ← rdL r; M.pure (x :: xs)
def fzL : List W → M (List PyData)
  | [] => M.pure []
  | w :: r => do let x ← fzW w; let xs ← fzL r; M.pure (x :: xs)
def asB : W → M Bool
  | .d (.bool b) => M.pure b
  | _ => M.bad
def asI : W → M Int
  | .d (.int i) => M.pure i
  | _ => M.bad
def W.isData : W → Bool
  | .d _ => true
  | _ => false
def newCell (c : Bx) : M W := fun s => .ok (.r s.length) (s ++ [c])
def slot (ρ : Rho) (i : Nat) : M W := match ρ[i]? with
  | some (some w) => M.pure w
  | _ => M.bad
def slotF (ρ : Rho) (i : Nat) : M Nat := match ρ[i]? with
  | some (some (.f n)) => M.pure n
  | _ => M.bad
def modL (ρ : Rho) (i : Nat) (k : List PyData → Option (W × List PyData)) : M W := match ρ[i]? with
  | some (some (.r l)) => fun s => match s[l]? with
    | some (.lst xs) => (match k xs with
      | some (w, ys) => .ok w (s.set l (.lst ys))
      | none => .bad)
    | _ => .bad
  | _ => M.bad
def chkL (ρ : Rho) (i : Nat) : M Unit := match ρ[i]? with
  | some (some (.r l)) => fun s => match s[l]? with
    | some (.lst _) => .ok () s
    | _ => .bad
  | _ => M.bad
def chkDc (ρ : Rho) (i : Nat) : M Unit := match ρ[i]? with
  | some (some (.r l)) => fun s => match s[l]? with
    | some (.dct _) => .ok () s
    | _ => .bad
  | _ => M.bad
def modDc (ρ : Rho) (i : Nat) (k : List (PyData × PyData) → Option (List (PyData × PyData))) : M Unit := match ρ[i]? with
  | some (some (.r l)) => fun s => match s[l]? with
    | some (.dct xs) => (match k xs with
      | some ys => .ok () (s.set l (.dct ys))
      | none => .bad)
    | _ => .bad
  | _ => M.bad
def keyM : W → M PyData
  | .d (.int i) => M.pure (.int i)
  | .d (.str x) => M.pure (.str x)
  | _ => M.bad
def putB (k y : PyData) (kvs : List (PyData × PyData)) : Option (List (PyData × PyData)) := if kvs.length < SZ then some (putD k y kvs) else none
def newDc : M Nat := fun s => .ok s.length (s ++ [.dct []])
def putC (l : Nat) (p : PyData × PyData) : M Unit := fun s => match s[l]? with
  | some (.dct kvs) => if kvs.length < SZ then .ok () (s.set l (.dct (putD p.1 p.2 kvs))) else .bad
  | _ => .bad
def dcompM (l : Nat) (f : PyData → M (Option (PyData × PyData))) : List PyData → M Unit
  | [] => M.pure ()
  | x :: r => do
    match ← f x with
    | some p => do putC l p; dcompM l f r
    | none => dcompM l f r
def compM (f : PyData → M (Option PyData)) : List PyData → List PyData → M (List PyData)
  | [], acc => M.pure acc
  | x :: r, acc => do
    match ← f x with
    | some y => if acc.length < SZ then compM f r (acc ++ [y]) else M.bad
    | none => compM f r acc
def signs (z : Str) : List Str := z.cps.toList.map fun c => ⟨#[c]⟩
def listM (ws : List W) : M (List PyData) := match ws with
  | [w] => do let x ← rd w; match x with
    | .list xs => M.pure xs
    | .tuple xs => M.pure xs
    | .str z => if z.length ≤ SZ then M.pure ((signs z).map .str) else M.bad
    | _ => M.bad
  | _ => M.bad
def sortM (rev : Bool) (ws : List W) : M (List PyData) := match ws with
  | [w] => do
    let x ← rd w
    match x with
    | .list xs => if okSort xs then M.pure (sortD rev xs) else M.bad
    | .tuple xs => if okSort xs then M.pure (sortD rev xs) else M.bad
    | _ => M.bad
  | _ => M.bad
def setM (w : W) : M (List PyData) := do
  let x ← rd w
  match x with
  | .list xs => if okOnce xs then M.pure (sortD false (onceD xs)) else M.bad
  | _ => M.bad
def sqD : PyData → Option (List PyData)
  | .list xs => some xs
  | .tuple xs => some xs
  | _ => none
def okDct (kvs : List (PyData × PyData)) : Bool := decide (kvs.length ≤ 1000) && decide ((onceD (kvs.map (·.1))).length = kvs.length)
def dctM (w : W) : M W := do
  let xd ← rd w
  let ps ← ofO (sqD xd)
  let kvs ← ofO (dctD ps)
  if okDct kvs then M.pure (.d (.dict kvs)) else M.bad
def starM (w : W) : M (List PyData) := do let x ← rd w; ofO (sqD x)
def dctN (w : W) : M (List (PyData × PyData)) := do
  let xd ← rd w
  let ps ← ofO (sqD xd)
  let kvs ← ofO (dctD ps)
  if okDct kvs then M.pure kvs else M.bad
def opD (f : PyData → PyData → Option PyData) (a b : W) : M W := do let x ← rd a; let y ← rd b; let z ← ofO (f x y); M.pure (.d z)
def cmpB (o : COp) (a b : W) : M Bool := do let x ← rd a; let y ← rd b; ofO (cmpD o x y)
def cmpM (o : COp) (a b : W) : M W := do let z ← cmpB o a b; M.pure (.d (.bool z))
def biM (b : Bi) (ws : List W) : M W := do let xs ← rdL ws; let z ← ofO (biD b xs); M.pure (.d z)
def isiM (t : Ty) (w : W) : M W := do let x ← rd w; M.pure (.d (.bool (isiD t x)))
def negM (w : W) : M W := do let i ← asI w; M.pure (.d (.int (-i)))
def slcM (lo hi : Option Int) (w : W) : M W := do let x ← rd w; let z ← ofO (slcD lo hi x); M.pure (.d z)
def slcN (lo hi : Option Int) (w : W) : M (List PyData) := do
  let x ← rd w
  match x with
  | .list xs => M.pure (cutD xs lo hi)
  | _ => M.bad
def revN (w : W) : M (List PyData) := do
  let x ← rd w
  match x with
  | .list xs => M.pure xs.reverse
  | _ => M.bad
def catN (a b : W) : M (List PyData) := do
  let x ← rd a
  let y ← rd b
  match x, y with
  | .list xs, .list ys => if xs.length + ys.length ≤ SZ then M.pure (xs ++ ys) else M.bad
  | _, _ => M.bad
def tupM (ws : List W) : M W := do let xs ← fzL ws; if xs.length ≤ SZ then M.pure (.d (.tuple xs)) else M.bad
def dispN (ws : List W) : M (List PyData) := do let xs ← fzL ws; if xs.length ≤ SZ then M.pure xs else M.bad
def fzM (w : W) : M W := do let y ← fzW w; M.pure (.d y)
def sclM (w : W) : M W := match w with
  | .s ns => M.pure (.d (.int ns.length))
  | _ => M.bad
def sciM (a b : W) : M W := do
  let i ← asI b
  match a with
  | .s ns => do let z ← ofO ((ixD ns.length i).bind fun k => ns[k]?); M.pure (.d (.int z))
  | _ => M.bad
def scsN (h : Option Int) (w : W) : M (List PyData) := match w with
  | .s ns => M.pure ((cutD ns none h).map .int)
  | _ => M.bad
def appK (y : PyData) (xs : List PyData) : Option (W × List PyData) := if xs.length < SZ then some (.d .none, xs ++ [y]) else none
def extK (y : PyData) (xs : List PyData) : Option (W × List PyData) := match y with
  | .list ys => if xs.length + ys.length ≤ SZ then some (.d .none, xs ++ ys) else none
  | .tuple ys => if xs.length + ys.length ≤ SZ then some (.d .none, xs ++ ys) else none
  | _ => none
def popK (k : Int) (xs : List PyData) : Option (W × List PyData) := match (if 0 ≤ k ∧ k < 2 ^ 62 then xs[k.toNat]? else none) with
  | some y => some (.d y, xs.eraseIdx k.toNat)
  | none => none
def setK (k : Int) (y : PyData) (xs : List PyData) : Option (W × List PyData) := (ixD xs.length k).map fun n => (.d .none, xs.set n y)
def seqM (w : W) : M (List PyData) := do let xd ← fzW w; ofO (seqD xd)
def rng1M (w : W) : M (List PyData) := do let i ← asI w; if -(2 ^ 62) ≤ i ∧ i < 2 ^ 62 then M.pure (rangeD 0 i) else M.bad
def rng2M (w u : W) : M (List PyData) := do let i ← asI w; let j ← asI u; if (-(2 ^ 62) ≤ i ∧ i < 2 ^ 62) ∧ (-(2 ^ 62) ≤ j ∧ j < 2 ^ 62) then M.pure (rangeD i j) else M.bad
def enumM (w : W) : M (List PyData) := do let xd ← fzW w; let xs ← ofO (sqD xd); M.pure (enumD xs)
def zipM (w u : W) : M (List PyData) := do let xd ← fzW w; let xs ← ofO (sqD xd); let yd ← fzW u; let ys ← ofO (sqD yd); M.pure (pairsD xs ys)
def noX {α : Type} (m : M α) : M α := fun s => match m s with
  | .ok a s' => .ok a s'
  | .exc _ _ _ => .bad
  | .bad => .bad
section
variable (run : Nat → List W → M W)
mutual
def denE : E → Rho → M W
  | .var i, ρ => slot ρ i
  | .cst d, _ => M.pure (.d d)
  | .gc _ d, _ => M.pure (.d d)
  | .gf f, _ => M.pure (.f f)
  | .bin o a b, ρ => do let x ← denE a ρ; let y ← denE b ρ; opD (binD o) x y
  | .neg a, ρ => do let x ← denE a ρ; negM x
  | .nt a, ρ => do let x ← denE a ρ; let b ← asB x; M.pure (.d (.bool (!b)))
  | .an a b, ρ => do let x ← denE a ρ; let c ← asB x; if c then denE b ρ else M.pure (.d (.bool false))
  | .or_ a b, ρ => do let x ← denE a ρ; let c ← asB x; if c then M.pure (.d (.bool true)) else denE b ρ
  | .cmp o a b, ρ => do let x ← denE a ρ; let y ← denE b ρ; cmpM o x y
  | .cmp2 o o' a b c, ρ => do
    let x ← denE a ρ
    let y ← denE b ρ
    let z ← cmpB o x y
    if z then do let u ← denE c ρ; cmpM o' y u else M.pure (.d (.bool false))
  | .ite c a b, ρ => do let x ← denE c ρ; let t ← asB x; if t then denE a ρ else denE b ρ
  | .tup es, ρ => do let ws ← denA es ρ; tupM ws
  | .frz l, ρ => do let xs ← denL l ρ; M.pure (.d (.list xs))
  | .cell l, ρ => do let xs ← denL l ρ; newCell (.lst xs)
  | .idx a b, ρ => do let x ← denE a ρ; let y ← denE b ρ; opD idxD x y
  | .slc a lo hi, ρ => do
    let x ← denE a ρ
    let l ← denO lo ρ
    let h ← denO hi ρ
    slcM l h x
  | .call f es, ρ => do let ws ← denA es ρ; run f ws
  | .callk f es ks ps, ρ => do let ws ← denA es ρ; let zs ← denA ks ρ; run f (ps.map fun i => (ws ++ zs).getD i (.d .none))
  | .callv i es, ρ => do
    let f ← slotF ρ i
    let ws ← denA es ρ
    run f ws
  | .bi b es, ρ => do let ws ← denA es ρ; biM b ws
  | .isi t a, ρ => do let x ← denE a ρ; isiM t x
  | .dct a, ρ => do let x ← denE a ρ; dctM x
  | .dcomp own t it c k e, ρ => do
    let xs ← denI it ρ
    let ρ0 := wipeR ρ (own.map (·.2))
    let l ← newDc
    dcompM l (fun x => noX do
      let ρ1 ← denT t (.d x) ρ0
      let ok ← denC c ρ1
      if ok then do let z ← denE k ρ1; let w ← denE e ρ1; let kd ← keyM z; let y ← fzW w; M.pure (some (kd, y)) else M.pure none) xs
    M.pure (.r l)
  | .dctC a, ρ => do let x ← denE a ρ; let kvs ← dctN x; newCell (.dct kvs)
  | .app i a, ρ => do
    chkL ρ i
    let x ← denE a ρ
    let y ← fzW x
    modL ρ i (appK y)
  | .ext i a, ρ => do
    chkL ρ i
    let x ← denE a ρ
    let y ← rd x
    modL ρ i (extK y)
  | .pop i a, ρ => do
    chkL ρ i
    let x ← denE a ρ
    let k ← asI x
    modL ρ i (popK k)
  | .fz a, ρ => do let x ← denE a ρ; fzM x
  | .scl a, ρ => do let x ← denE a ρ; sclM x
  | .sci a b, ρ => do let x ← denE a ρ; let y ← denE b ρ; sciM x y
def denO : Es → Rho → M (Option Int)
  | .nil, _ => M.pure none
  | .cons e .nil, ρ => do let x ← denE e ρ; let i ← asI x; M.pure (some i)
  | _, _ => M.bad
def denL : Lf → Rho → M (List PyData)
  | .scs a h, ρ => do let x ← denE a ρ; let i ← denO h ρ; scsN i x
  | .disp es, ρ => do let ws ← denA es ρ; dispN ws
  | .comp own t it c e, ρ => do
    let xs ← denI it ρ
    let ρ0 := wipeR ρ (own.map (·.2))
    compM (fun x => noX do
      let ρ1 ← denT t (.d x) ρ0
      let ok ← denC c ρ1
      if ok then do let w ← denE e ρ1; let y ← fzW w; M.pure (some y) else M.pure none) xs []
  | .listOf a, ρ => do let x ← denE a ρ; listM [x]
  | .sorted rev a, ρ => do let x ← denE a ρ; sortM rev [x]
  | .sortedSet a, ρ => do let x ← denE a ρ; setM x
  | .rev a, ρ => do let x ← denE a ρ; revN x
  | .slcL a lo hi, ρ => do
    let x ← denE a ρ
    let l ← denO lo ρ
    let h ← denO hi ρ
    slcN l h x
  | .cat a b, ρ => do let x ← denE a ρ; let y ← denE b ρ; catN x y
def denA : Es → Rho → M (List W)
  | .nil, _ => M.pure []
  | .cons e r, ρ => do let x ← denE e ρ; let xs ← denA r ρ; M.pure (x :: xs)
  | .star e r, ρ => do let x ← denE e ρ; let ds ← starM x; let xs ← denA r ρ; M.pure (ds.map W.d ++ xs)
def denC : Es → Rho → M Bool
  | .nil, _ => M.pure true
  | .cons e .nil, ρ => do let x ← denE e ρ; asB x
  | _, _ => M.bad
def denI : It → Rho → M (List PyData)
  | .seq a, ρ => do let x ← denE a ρ; seqM x
  | .range1 a, ρ => do let x ← denE a ρ; rng1M x
  | .range2 a b, ρ => do let x ← denE a ρ; let y ← denE b ρ; rng2M x y
  | .enum a, ρ => do let x ← denE a ρ; enumM x
  | .zip a b, ρ => do let x ← denE a ρ; let y ← denE b ρ; zipM x y
def denT : Tg → W → Rho → M Rho
  | .nm i, w, ρ => M.pure (ρ.set i (some w))
  | .tp ts, w, ρ => match w with
    | .d (.tuple xs) => if xs.length = ts.len then denTs ts xs ρ else M.bad
    | _ => M.bad
  | .sub i e, w, ρ => do
    let y ← fzW w
    chkL ρ i
    let x ← denE e ρ
    let k ← asI x
    let _ ← modL ρ i (setK k y)
    M.pure ρ
  | .put i e, w, ρ => do
    let y ← fzW w
    chkDc ρ i
    let x ← denE e ρ
    let k ← keyM x
    modDc ρ i (putB k y)
    M.pure ρ
def denTs : Tgs → List PyData → Rho → M Rho
  | .nil, [], ρ => M.pure ρ
  | .cons t r, x :: xs, ρ => do let ρ1 ← denT t (.d x) ρ; denTs r xs ρ1
  | _, _, _ => M.bad
end
inductive Fl where
  | nx
  | rt (w : W)
def forM (f : PyData → Rho → M (Fl × Rho)) : List PyData → Rho → M (Fl × Rho)
  | [], ρ => M.pure (.nx, ρ)
  | x :: r, ρ => do
    let (fl, ρ') ← f x ρ
    match fl with
    | .nx => forM f r ρ'
    | .rt w => M.pure (.rt w, ρ')
def whM (c : Rho → M Bool) (b : Rho → M (Fl × Rho)) : Nat → Rho → M (Fl × Rho)
  | 0, _ => M.bad
  | n + 1, ρ => do
    if ← c ρ then do
      let (fl, ρ') ← b ρ
      match fl with
      | .nx => whM c b n ρ'
      | .rt w => M.pure (.rt w, ρ')
    else M.pure (.nx, ρ)
def WT : Nat := 4294967296
mutual
def denS : S → Rho → M (Fl × Rho)
  | .asg t e, ρ => do let w ← denE run e ρ; let ρ' ← denT run t w ρ; M.pure (.nx, ρ')
  | .par i j a b, ρ => do let x ← denE run a ρ; let y ← denE run b ρ; M.pure (.nx, (ρ.set i (some x)).set j (some y))
  | .par3 i j l a b c, ρ => do let x ← denE run a ρ; let y ← denE run b ρ; let z ← denE run c ρ; M.pure (.nx, ((ρ.set i (some x)).set j (some y)).set l (some z))
  | .ex e, ρ => do let _ ← denE run e ρ; M.pure (.nx, ρ)
  | .ret e, ρ => do let w ← denE run e ρ; M.pure (.rt w, ρ)
  | .iff c t f, ρ => do let x ← denE run c ρ; let b ← asB x; if b then denSs t ρ else denSs f ρ
  | .for_ t it b, ρ => do
    let xs ← denI run it ρ
    forM (fun x ρ => do let ρ1 ← denT run t (.d x) ρ; denSs b ρ1) xs ρ
  | .wh c b, ρ => whM (fun ρ => do let x ← denE run c ρ; asB x) (fun ρ => denSs b ρ) WT ρ
  | .never, _ => M.bad
def denSs : Ss → Rho → M (Fl × Rho)
  | .nil, ρ => M.pure (.nx, ρ)
  | .cons s r, ρ => do
    let (fl, ρ') ← denS s ρ
    match fl with
    | .nx => denSs r ρ'
    | .rt w => M.pure (.rt w, ρ')
end
end
structure FD where
  np : Nat
  ns : Nat
  body : Ss
def gcW (n : Nat) : Res W → Res W
  | .ok (.r l) s => if l < n then .ok (.r l) (s.take n) else (match s[l]? with
    | some c => .ok (.r n) (s.take n ++ [c])
    | none => .bad)
  | .ok w s => .ok w (s.take n)
  | .exc c d s => .exc c d (s.take n)
  | .bad => .bad
def bodyM (run : Nat → List W → M W) (fd : FD) (ws : List W) : M W := do
  let (fl, _) ← denSs run fd.body (ws.map some ++ List.replicate (fd.ns - fd.np) none)
  match fl with
  | .rt w => M.pure w
  | .nx => M.pure (.d .none)
def run (tab : Nat → Option FD) : Nat → Nat → List W → M W
  | 0, _, _ => M.bad
  | n + 1, f, ws => fun st => match tab f with
    | none => .bad
    | some fd => if ws.length = fd.np ∧ fd.np ≤ fd.ns then gcW st.length (bodyM (run tab n) fd ws st) else .bad
end Gd
namespace Gd
open PySem PySem.Spec L2
def RWp {α : Type} (r : Res α) (P : α → Sto → Prop) : Prop := match r with
  | .ok a s => P a s
  | .exc _ _ _ => False
  | .bad => False
theorem RWp.mono {α : Type} {r : Res α} {P P' : α → Sto → Prop} (h : RWp r P) (f : ∀ a s, P a s → P' a s) : RWp r P' := by
  cases r with
  | ok a s => exact f a s h
  | exc c d s => exact h
  | bad => exact h
theorem rwp_bind {α β : Type} {m : M α} {k : α → M β} {s : Sto} {P : β → Sto → Prop} : RWp ((m >>= k) s) P = RWp (m s) (fun a s' => RWp (k a s') P) := by
  show RWp (M.bind m k s) P = _
  unfold M.bind
  cases m s <;> rfl
theorem rwp_pure {α : Type} {a : α} {s : Sto} {P : α → Sto → Prop} : RWp (M.pure a s) P = P a s := rfl
theorem rwp_bad {α : Type} {s : Sto} {P : α → Sto → Prop} : RWp ((M.bad : M α) s) P = False := rfl
theorem rwp_ofO {α : Type} {o : Option α} {s : Sto} {P : α → Sto → Prop} (h : RWp (ofO o s) P) : ∃ a, o = some a ∧ P a s := by
  cases o with
  | none => exact h.elim
  | some a => exact ⟨a, rfl, h⟩
def RWx {α : Type} (r : Res α) (P : α → Sto → Prop) (X : Nat → PyData → Sto → Prop) : Prop := match r with
  | .ok a s => P a s
  | .exc c d s => X c d s
  | .bad => False
theorem RWx.mono {α : Type} {r : Res α} {P P' : α → Sto → Prop} {X X' : Nat → PyData → Sto → Prop} (h : RWx r P X) (f : ∀ a s, P a s → P' a s) (g : ∀ c d s, X c d s → X' c d s) : RWx r P' X' := by
  cases r with
  | ok a s => exact f a s h
  | exc c d s => exact g c d s h
  | bad => exact h
theorem rwx_bind {α β : Type} {m : M α} {k : α → M β} {s : Sto} {P : β → Sto → Prop} {X : Nat → PyData → Sto → Prop} : RWx ((m >>= k) s) P X = RWx (m s) (fun a s' => RWx (k a s') P X) X := by
  show RWx (M.bind m k s) P X = _
  unfold M.bind
  cases m s <;> rfl
def NX {α : Type} (m : M α) : Prop := ∀ s c d s', m s ≠ .exc c d s'
theorem NX.rwp {α : Type} {m : M α} (n : NX m) {s : Sto} {P : α → Sto → Prop} {X : Nat → PyData → Sto → Prop} (h : RWx (m s) P X) : RWp (m s) P := by
  cases e : m s with
  | ok a s' => rw [e] at h; exact h
  | exc c d s' => exact absurd e (n s c d s')
  | bad => rw [e] at h; exact h
theorem RWp.rwx {α : Type} {r : Res α} {P : α → Sto → Prop} {X : Nat → PyData → Sto → Prop} (h : RWp r P) : RWx r P X := by
  cases r with
  | ok a s => exact h
  | exc c d s => exact h.elim
  | bad => exact h
theorem NX.pure {α : Type} (a : α) : NX (M.pure a) := fun s c d s' e => by cases e
theorem NX.bad {α : Type} : NX (M.bad : M α) := fun s c d s' e => by cases e
theorem NX.ofO {α : Type} (o : Option α) : NX (ofO o) := by
  cases o with
  | none => exact NX.bad
  | some a => exact NX.pure a
theorem NX.bind {α β : Type} {m : M α} {k : α → M β} (h : NX m) (g : ∀ a, NX (k a)) : NX (m >>= k) := fun s c d s' e => by
  have e : M.bind m k s = .exc c d s' := e
  unfold M.bind at e
  cases q : m s with
  | ok a s1 => rw [q] at e; exact g a s1 c d s' e
  | exc c1 d1 s1 => exact h s c1 d1 s1 q
  | bad => rw [q] at e; cases e
theorem NX.ite {α : Type} {c : Prop} [Decidable c] {m k : M α} (h : NX m) (g : NX k) : NX (if c then m else k) := by
  split
  · exact h
  · exact g
theorem NX.rd (w : W) : NX (rd w) := by
  cases w with
  | d x => exact NX.pure x
  | r l =>
    intro s c d s' e
    unfold Gd.rd at e
    dsimp only at e
    split at e <;> cases e
  | f n => exact NX.bad
  | s ns => exact NX.bad
theorem NX.rdL : ∀ ws : List W, NX (rdL ws)
  | [] => NX.pure _
  | w :: r => NX.bind (NX.rd w) fun _ => NX.bind (NX.rdL r) fun _ => NX.pure _
section
variable {K : PySem.W.Frag} {mg : Str → Option Value} {nm : Nat → Str} {H H' : Hp} {j j' : List Addr} {st st' : Sto} {Z : Addr → Prop}
def OkW (K : PySem.W.Frag) (mg : Str → Option Value) (nm : Nat → Str) (H : Hp) (j : List Addr) (st : Sto) (Z : Addr → Prop) (Q : VK) : W → Sto → Prop := fun w st' =>
  ∀ v H' j', Rel K H' j' st' Z → Wr K mg nm H' j' st' Z v w → Keep H j st H' j' st' → Q v H'
def OkB (K : PySem.W.Frag) (H : Hp) (j : List Addr) (st : Sto) (Z : Addr → Prop) (Q : Bool → Hp → Prop) : Bool → Sto → Prop := fun b st' =>
  ∀ H' j', Rel K H' j' st' Z → Keep H j st H' j' st' → Q b H'
def OkA (K : PySem.W.Frag) (mg : Str → Option Value) (nm : Nat → Str) (H : Hp) (j : List Addr) (st : Sto) (Z : Addr → Prop) (Q : List V → Hp → Prop) : List W → Sto → Prop := fun ws st' =>
  ∀ vs H' j', Rel K H' j' st' Z → WrL K mg nm H' j' st' Z vs ws → Keep H j st H' j' st' → Q vs H'
def Zp (Z : Addr → Prop) (p : Addr) : Addr → Prop := fun a => Z a ∨ a = p
def Fr (H : Hp) (j : List Addr) (st : Sto) (p : Addr) : Prop := ∀ o, H p = some o → Lv j st p ∨ ∃ ps, o = .tbl ps
theorem Fr.of (h : H p = none) : Fr H j st p := fun o e => by rw [h] at e; cases e
theorem Fr.back {p : Addr} (k : Keep H j st H' j' st') (h : Fr H' j' st' p) : Fr H j st p := fun o e => by
  by_cases l : Lv j st p
  · exact .inl l
  · by_cases t : ∃ ps, o = .tbl ps
    · exact .inr t
    · obtain ⟨q, n⟩ := k.ext.old p o e l (fun ps z => t ⟨ps, z⟩)
      rcases q with q | ⟨_, ob, q⟩
      · rcases h _ q with z | z
        · exact absurd z n
        · exact absurd z t
      · rcases h _ q with z | ⟨ps, z⟩
        · exact absurd z n
        · cases z
def OkN (K : PySem.W.Frag) (H : Hp) (j : List Addr) (st : Sto) (Z : Addr → Prop) (Q : VK) : List PyData → Sto → Prop := fun ds st' =>
  ∀ p vs H' j', Fr H j st p → H' p = some (.lst vs) → ¬ Z p → DrL K H' (Lz j' st' (Zp Z p)) vs ds → Rel K H' j' st' (Zp Z p) → Keep H j st H' j' st' → Q (.ref p) H'
def OkX (K : PySem.W.Frag) (cl : Nat → Value × Str) (H : Hp) (j : List Addr) (st : Sto) (Z : Addr → Prop) (E : XK) : Nat → PyData → Sto → Prop := fun c x st' =>
  ∀ d v H' j', Rel K H' j' st' Z → H' d = some (.xd [((cl c).2, v)]) → Dr K H' (Lz j' st' Z) v x → Keep H j st H' j' st' → E (cl c).1 (some d) H'
structure Cf where
  K : PySem.W.Frag
  mg : Str → Option Value
  nm : Nat → Str
  cl : Nat → Value × Str
  E : XK
def At (C : Cf) (σ : L2.St) (H : Hp) (P : Rho → Sto → List Addr → (Addr → Prop) → Prop) : Prop :=
  ∃ ρ st j Z, Rel C.K H j st Z ∧ Slots C.K C.mg C.nm H j st Z σ ρ ∧ P ρ st j Z
def T (C : Cf) (c : Rho → M W) : TE := fun σ H Q => At C σ H fun ρ st j Z => RWx (c ρ st) (OkW C.K C.mg C.nm H j st Z Q) (OkX C.K C.cl H j st Z C.E)
def TB (C : Cf) (c : Rho → M Bool) : TT := fun σ H Q => At C σ H fun ρ st j Z => RWx (c ρ st) (OkB C.K H j st Z Q) (OkX C.K C.cl H j st Z C.E)
def TAr (C : Cf) (c : Rho → M (List W)) : TA := fun σ H Q => At C σ H fun ρ st j Z => RWx (c ρ st) (OkA C.K C.mg C.nm H j st Z Q) (OkX C.K C.cl H j st Z C.E)
def TN (C : Cf) (c : Rho → M (List PyData)) : TE := fun σ H Q => At C σ H fun ρ st j Z => RWx (c ρ st) (OkN C.K H j st Z Q) (OkX C.K C.cl H j st Z C.E)
theorem OkW.weak {Q : VK} {w : W} {s2 : Sto} (h : OkW K mg nm H j st Z Q w s2) (k : Keep H j st H' j' st') : OkW K mg nm H' j' st' Z Q w s2 := fun v H2 j2 a b c => h v H2 j2 a b (k.trans c)
theorem OkB.weak {Q : Bool → Hp → Prop} {w : Bool} {s2 : Sto} (h : OkB K H j st Z Q w s2) (k : Keep H j st H' j' st') : OkB K H' j' st' Z Q w s2 := fun H2 j2 a c => h H2 j2 a (k.trans c)
theorem OkA.weak {Q : List V → Hp → Prop} {w : List W} {s2 : Sto} (h : OkA K mg nm H j st Z Q w s2) (k : Keep H j st H' j' st') : OkA K mg nm H' j' st' Z Q w s2 := fun v H2 j2 a b c => h v H2 j2 a b (k.trans c)
theorem OkX.weak {cl : Nat → Value × Str} {E : XK} {c : Nat} {x : PyData} {s2 : Sto} (h : OkX K cl H j st Z E c x s2) (k : Keep H j st H' j' st') : OkX K cl H' j' st' Z E c x s2 := fun d v H2 j2 a b e g => h d v H2 j2 a b e (k.trans g)
theorem OkN.weak {Q : VK} {w : List PyData} {s2 : Sto} (h : OkN K H j st Z Q w s2) (k : Keep H j st H' j' st') : OkN K H' j' st' Z Q w s2 := fun p vs H2 j2 f a b c d e => h p vs H2 j2 (f.back k) a b c d (k.trans e)
theorem T.bind {C : Cf} {α : Type} {c : Rho → M W} {k : W → M α} {R : V → Hp → Prop} {ρ : Rho} {σ : L2.St} {Pk : Hp → List Addr → Sto → α → Sto → Prop} {H : Hp} {j : List Addr} {st : Sto} (rel : Rel C.K H j st Z) (sl : Slots C.K C.mg C.nm H j st Z σ ρ)
    (wk : ∀ H' j' st' a s2, Keep H j st H' j' st' → Pk H j st a s2 → Pk H' j' st' a s2)
    (h : RWx ((c ρ >>= k) st) (Pk H j st) (OkX C.K C.cl H j st Z C.E))
    (f : ∀ v w H1 j1 st1, Rel C.K H1 j1 st1 Z → Wr C.K C.mg C.nm H1 j1 st1 Z v w → Keep H j st H1 j1 st1 → Slots C.K C.mg C.nm H1 j1 st1 Z σ ρ → RWx (k w st1) (Pk H1 j1 st1) (OkX C.K C.cl H1 j1 st1 Z C.E) → R v H1) : T C c σ H R := by
  refine ⟨ρ, st, j, Z, rel, sl, ?_⟩
  rw [rwx_bind] at h
  refine h.mono (fun w s1 h1 v H1 j1 r1 w1 k1 => f v w H1 j1 s1 r1 w1 k1 (k1.slots sl) (h1.mono (fun a s2 h2 => wk _ _ _ _ _ k1 h2) fun c d s2 h2 => h2.weak k1)) fun c d s h => h
theorem Rel.new {p : Addr} {o : HO} (r : Rel K H j st Z) (hp : H p = none) : Rel K (upd H p o) j st Z := by
  have ex : Ext H (Lz j st Z) (upd H p o) (Lz j st Z) := Ext.new hp fun a z => .inl z
  refine ⟨r.len, r.inj, fun i a c h1 h2 => ?_, fun a h => ?_⟩
  · have q := r.cell i a c h1 h2
    cases c with
    | lst ds =>
      obtain ⟨vs, e, d⟩ := q
      exact ⟨vs, by rw [upd_ne (ne_of_none e hp)]; exact e, d.ext ex⟩
    | dct ds =>
      obtain ⟨kvs, e, k, d⟩ := q
      exact ⟨kvs, by rw [upd_ne (ne_of_none e hp)]; exact e, k, d.ext ex⟩
    | dead => trivial
  · obtain ⟨n, o', e⟩ := r.own a h
    exact ⟨n, o', by rw [upd_ne (ne_of_none e hp)]; exact e⟩
theorem Keep.new {p : Addr} {o : HO} (hp : H p = none) : Keep H j st (upd H p o) j st := ⟨Ext.new hp fun a z => .inl z, fun _ _ h => h⟩
theorem Rel.live {a : Addr} (r : Rel K H j st Z) (h : Lz j st Z a) : ∃ o, H a = some o := by
  rcases h with ⟨i, c, h1, h2, h3⟩ | h
  · have q := r.cell i a c h1 h2
    cases c with
    | lst ds => obtain ⟨vs, e, _⟩ := q; exact ⟨_, e⟩
    | dct ds => obtain ⟨vs, e, _⟩ := q; exact ⟨_, e⟩
    | dead => exact absurd rfl h3
  · exact (r.own a h).2
theorem Rel.fresh {p : Addr} (r : Rel K H j st Z) (hp : H p = none) : ¬ Lz j st Z p := fun z => by
  obtain ⟨o, e⟩ := r.live z
  rw [hp] at e
  cases e
theorem OkW.same {Q : VK} {d : PyData} {v : V} (h : OkW K mg nm H j st Z Q (.d d) st) (r : Rel K H j st Z) (x : Dr K H (Lz j st Z) v d) : Q v H := h v H j r x Keep.refl
theorem OkW.tup {Q : VK} {ds : List PyData} {vs : List V} {p : Addr} {o : Obj} (h : OkW K mg nm H j st Z Q (.d (.tuple ds)) st) (r : Rel K H j st Z) (x : DrL K H (Lz j st Z) vs ds) (hp : H p = none) (hd : o.dict = none) : Q (.ref p) (upd H p (.frz o (.tup vs))) :=
  h _ _ j (r.new hp) (.tup (.inl ⟨o, upd_same, hd⟩) (x.ext (Ext.new hp fun a z => .inl z))) (Keep.new hp)
theorem lz_zp {p a : Addr} : Lz j st (Zp Z p) a ↔ Lz j st Z a ∨ a = p := by
  unfold Lz Zp
  exact or_assoc.symm
theorem Rel.newZ {p : Addr} {o : HO} (r : Rel K H j st Z) (hp : H p = none) : Rel K (upd H p o) j st (Zp Z p) := by
  have ex : Ext H (Lz j st Z) (upd H p o) (Lz j st (Zp Z p)) := Ext.new hp fun a z => lz_zp.mp z
  refine ⟨r.len, r.inj, fun i a c h1 h2 => ?_, fun a h => ?_⟩
  · have q := r.cell i a c h1 h2
    cases c with
    | lst ds =>
      obtain ⟨vs, e, d⟩ := q
      exact ⟨vs, by rw [upd_ne (ne_of_none e hp)]; exact e, d.ext ex⟩
    | dct ds =>
      obtain ⟨kvs, e, k, d⟩ := q
      exact ⟨kvs, by rw [upd_ne (ne_of_none e hp)]; exact e, k, d.ext ex⟩
    | dead => trivial
  · rcases h with h | h
    · obtain ⟨n, o', e⟩ := r.own a h
      exact ⟨n, o', by rw [upd_ne (ne_of_none e hp)]; exact e⟩
    · subst h
      exact ⟨fun z => r.fresh hp (.inl z), o, upd_same⟩
theorem BxOk.mono {L L' : Addr → Prop} {a : Addr} {c : Bx} (h : BxOk K H L a c) (m : ∀ a, L' a → L a) : BxOk K H L' a c := by
  cases c with
  | lst ds => obtain ⟨vs, e, d⟩ := h; exact ⟨vs, e, d.mono m⟩
  | dct ds => obtain ⟨vs, e, k, d⟩ := h; exact ⟨vs, e, k, d.mono m⟩
  | dead => trivial
theorem Rel.less {Z' : Addr → Prop} (r : Rel K H j st Z) (h : ∀ a, Z' a → Z a) : Rel K H j st Z' :=
  ⟨r.len, r.inj, fun i a c h1 h2 => (r.cell i a c h1 h2).mono fun b q => q.imp id (h b), fun a q => r.own a (h a q)⟩
theorem OkN.new {Q : VK} {ds : List PyData} {vs : List V} {p : Addr} (h : OkN K H j st Z Q ds st) (r : Rel K H j st Z) (x : DrL K H (Lz j st Z) vs ds) (hp : H p = none) : Q (.ref p) (upd H p (.lst vs)) :=
  h p vs _ j (Fr.of hp) upd_same (fun z => r.fresh hp (.inr z)) (x.ext (Ext.new hp fun a z => lz_zp.mp z)) (r.newZ hp) (Keep.new hp)
theorem OkW.lst {Q : VK} {ds : List PyData} {vs : List V} {p : Addr} (h : OkW K mg nm H j st Z Q (.d (.list ds)) st) (r : Rel K H j st Z) (x : DrL K H (Lz j st Z) vs ds) (hp : H p = none) : Q (.ref p) (upd H p (.lst vs)) :=
  h _ _ j (r.new hp) (.lst upd_same (r.fresh hp) (x.ext (Ext.new hp fun a z => .inl z))) (Keep.new hp)
inductive Rv (K : PySem.W.Frag) (H : Hp) (L : Addr → Prop) : V → PyData → Prop
  | non : Rv K H L .non .none
  | bl (b : Bool) : Rv K H L (.bl b) (.bool b)
  | int (i : Int) : Rv K H L (.int i) (.int i)
  | str (x : Str) : Rv K H L (.str x) (.str x)
  | lst {a : Addr} {xs : List V} {ds : List PyData} : H a = some (.lst xs) → DrL K H L xs ds → Rv K H L (.ref a) (.list ds)
  | tup {a : Addr} {xs : List V} {ds : List PyData} : TpQ K H a xs → DrL K H L xs ds → Rv K H L (.ref a) (.tuple ds)
  | dK {a : Addr} {kvs : List (Key × V)} {ds : List (PyData × PyData)} : Rd H a (.dK kvs) → ds.map (·.1) = kvs.map (fun p => keyD p.1) → DrL K H L (kvs.map (·.2)) (ds.map (·.2)) → Rv K H L (.ref a) (.dict ds)
  | dT {a : Addr} {kvs : List (List Key × V)} {ds : List (PyData × PyData)} : Rd H a (.dT kvs) → kvs ≠ [] → ds.map (·.1) = kvs.map (fun p => tkeyD p.1) → DrL K H L (kvs.map (·.2)) (ds.map (·.2)) → Rv K H L (.ref a) (.dict ds)
theorem Dr.rv {L : Addr → Prop} {v : V} {d : PyData} (h : Dr K H L v d) : Rv K H L v d := by
  cases h with
  | non => exact .non
  | bl b => exact .bl b
  | int i => exact .int i
  | str x => exact .str x
  | lst e _ h => exact .lst e h
  | tup e h => exact .tup e h
  | dK a _ c h => exact .dK a c h
  | dT a ne _ c h => exact .dT a ne c h
theorem Rv.d0 {L : Addr → Prop} {v : V} {d : PyData} (h : Rv K H L v d) : Dr K H (fun _ => False) v d := by
  cases h with
  | non => exact .non
  | bl b => exact .bl b
  | int i => exact .int i
  | str x => exact .str x
  | lst e h => exact .lst e (fun z => z) (h.mono fun _ z => z.elim)
  | tup e h => exact .tup e (h.mono fun _ z => z.elim)
  | dK a c h => exact .dK a (fun z => z) c (h.mono fun _ z => z.elim)
  | dT a ne c h => exact .dT a ne (fun z => z) c (h.mono fun _ z => z.elim)
theorem rd_rv {v : V} {w : W} {s : Sto} {P : PyData → Sto → Prop} (r : Rel K H j s Z) (h : Wr K mg nm H j s Z v w) (q : RWp (rd w s) P) : ∃ d, P d s ∧ Rv K H (Lz j s Z) v d := by
  cases w with
  | d x => exact ⟨x, q, Dr.rv h⟩
  | r l =>
    obtain ⟨a, rfl, ha⟩ := h
    unfold rd at q
    dsimp only at q
    cases e : s[l]? with
    | none => rw [e] at q; exact q.elim
    | some c =>
      rw [e] at q
      have ok := r.cell l a c ha e
      cases c with
      | lst xs =>
        obtain ⟨vs, hv, hd⟩ := ok
        exact ⟨_, q, .lst hv hd⟩
      | dct kvs =>
        obtain ⟨kv, hv, hk, hd⟩ := ok
        exact ⟨_, q, .dK (.inl hv) hk hd⟩
      | dead => exact q.elim
  | f n => exact q.elim
  | s ns => exact q.elim
mutual
theorem Dr.dp {L : Addr → Prop} : ∀ {v : V} {d : PyData}, Dr K H L v d → d.canLay0 = true → Dp K H v d
  | _, _, .non, _ => .non
  | _, _, .bl b, _ => .bl b
  | _, _, .int b, _ => .int b
  | _, _, .str b, _ => .str b
  | _, _, .lst e _ h, c => .lst (.inl (.inl e)) (DrL.dp h (by simpa [PyData.canLay0] using c))
  | _, _, .tup e h, c => .tup e.sqt (DrL.dp h (by simpa [PyData.canLay0] using c))
  | _, _, .dK _ _ _ _, c => by simp [PyData.canLay0] at c
  | _, _, .dT _ _ _ _ _, c => by simp [PyData.canLay0] at c
theorem DrL.dp {L : Addr → Prop} : ∀ {vs : List V} {ds : List PyData}, DrL K H L vs ds → PyData.canLayAll0 ds = true → DpAll K H vs ds
  | _, _, .nil, _ => .nil
  | _, _, .cons h t, c => by
    have c' := (Bool.and_eq_true_iff.mp (by simpa only [PyData.canLayAll0] using c))
    exact .cons (Dr.dp h c'.1) (DrL.dp t c'.2)
end
end
end Gd
namespace Gd
open PySem PySem.Spec L2
def newT (xs : List V) (H : Hp) (Q : VK) : Prop := ∀ p (o : Obj), H p = none → o.dict = none → Q (.ref p) (upd H p (.frz o (.tup xs)))
section
variable {X : Cx}
theorem laidT {pins : List (Addr × Obj)} {σ : St} {H : Hp} {s : Shared} {Q : VK} {us : List Value} {xs : List V} {t : Nat} (I : Inv X pins σ H s) (r : Vals xs us) (z : xs.length ≤ sizeLine) (q : newT xs H Q) :
    EP X pins σ Q (.ref s.heap.objs.size) { s with heap := s.heap.push { cls := .type "tuple", data := .seq us.toArray }, toks := t } := by
  have hn := I.hok.fresh (Nat.le_refl s.heap.objs.size)
  exact ⟨.ref s.heap.objs.size, upd H s.heap.objs.size (.frz { cls := .type "tuple", data := .seq us.toArray } (.tup xs)),
    I.laid (fun b o e => Heap.get?_push_of_some _ e) (Nat.le_refl _) (show ObjOk X.prog X.w _ _ _ (.frz _ (.tup xs)) from ⟨Heap.get?_push_size _ rfl, z, us, r, PyProof.Rows.IsTup.new _ _⟩), rfl, q _ _ hn rfl⟩
def tTupP (t : TA) : TE := fun σ H Q => t σ H fun xs H1 => xs.length ≤ sizeLine ∧ newT xs H1 Q
theorem pe_tupP {es : List Expr} {t : TA} {k : Nat} {pos : Pos} (h : PA X es t) : PE X (.Tuple es k pos) (tTupP t) := by
  refine ⟨fun pins s σ H Q I hq => ?_⟩
  exact wpAny_Tuple_spliced (thn (h.run pos pins s σ H _ I hq) fun us s1 ⟨xs, H1, I1, r, z, q⟩ => ⟨by rw [← r.length]; exact z, laidT I1 r z q⟩)
def rCatP (K : PySem.W.Frag) : R2 := fun x y H Q => ∃ a b xs ys, x = .ref a ∧ y = .ref b ∧ SqT K H a xs ∧ SqT K H b ys ∧ xs.length + ys.length ≤ sizeLine ∧ (xs = [] → Q (.ref b) H) ∧ (xs ≠ [] → ys = [] → Q (.ref a) H) ∧ newT (xs ++ ys) H Q
theorem op_catP : OpR X (binaryOp .Add) (rCatP X.K) := by
  intro pins s σ H x y v u Q I rx ry h
  obtain ⟨a, b, xs, ys, rfl, rfl, ha, hb, hz, q0, q1, q2⟩ := h
  cases rx
  cases ry
  obtain ⟨its, r1, p1, _⟩ := I.tuple ha
  obtain ⟨its2, r2, p2, _⟩ := I.tuple hb
  by_cases hx : xs = []
  · subst hx
    cases r1
    exact cat_tup0 p1 p2 ⟨.ref b, H, I, rfl, q0 rfl⟩
  · exact HT.cat_tup p1 p2 (fun z => hx (r1.nil_iff.mp z)) (fun z => ⟨.ref a, H, I, rfl, q1 hx (r2.nil_iff.mp z)⟩) (fun z => laidT (t := s.toks) I (r1.append r2) (by rw [List.length_append]; exact hz) q2) (by rw [← r1.length, ← r2.length]; exact hz)
def rSlP (K : PySem.W.Frag) : V → Option Int → Option Int → Hp → VK → Prop := fun x lo hi H Q => ∃ a xs, x = .ref a ∧ SqT K H a xs ∧ (HT.sIx xs.length 0 lo = 0 ∧ HT.sIx xs.length xs.length hi = xs.length → Q (.ref a) H) ∧ newT (cutV xs lo hi) H Q
theorem sl_tupP : SlR X (rSlP X.K) := by
  intro pins s σ H x v vl vu lo hi sl Q I rx hs pl pu h
  obtain ⟨a, xs, rfl, hx, q1, q2⟩ := h
  cases rx
  obtain ⟨its, r, ht, hz⟩ := I.tuple hx
  have hlen : its.toArray.size = xs.length := by rw [List.size_toArray]; exact r.length.symm
  refine ⟨"tuple", _, PyProof.Rows.slot_tuple_getitem.lookup, ht.typeIs, ?_⟩
  by_cases hw : HT.sIx xs.length 0 lo = 0 ∧ HT.sIx xs.length xs.length hi = xs.length
  · exact getItem_tuple_whole ht hs pl pu (by rw [hlen]; exact hw) ⟨.ref a, H, I, rfl, q1 hw⟩
  · refine HT.getItem_tuple_cut ht hs pl pu (by rw [hlen]; exact hw) ?_ (by rw [hlen]; exact hz)
    rw [hlen]
    exact laidT (t := s.toks) I ((r.drop (HT.sIx xs.length 0 lo)).take (HT.sIx xs.length xs.length hi - HT.sIx xs.length 0 lo)) (Nat.le_trans (cutV_length xs lo hi) hz) q2
theorem call_tupP : CallR X (.type "tuple") (fun xs H Q => ∃ p ys, xs = [.ref p] ∧ ((SqL X.K H p ys ∧ newT ys H Q) ∨ (SqT X.K H p ys ∧ Q (.ref p) H))) := by
  intro pins s σ H xs us Q I r h
  obtain ⟨p, ys, rfl, h⟩ := h
  rcases h with ⟨hq, q⟩ | h
  · rw [Vals.ref1 r]
    obtain ⟨its, r', pl, hz⟩ := I.list hq
    have hl := r'.length
    refine call_tuple_list pl.isList (fun h' kp => ?_) (by simp only [List.size_toArray]; omega)
    exact laidT (t := s.toks) (I.kept (t' := s.toks) kp) r' hz q
  · exact call_tuple_of pins s σ H _ us Q I r ⟨p, ys, rfl, .inr h⟩
theorem call_dmP : CallR X (.builtin "divmod") (fun xs H Q => ∃ i j, xs = [.int i, .int j] ∧ CDiv i j ∧ newT [.int (i / j), .int (i % j)] H Q) := by
  intro pins s σ H xs us Q I r h
  obtain ⟨i, j, rfl, ⟨h1, h2⟩, q⟩ := h
  obtain ⟨u, w', rfl, ⟨t, rfl⟩, ⟨t', rfl⟩⟩ := vals2 r
  refine PyProof.Rows.divmod_int (by omega) ?_ (.inl (PyProof.noPylong_small (by omega)))
  rw [Int.fdiv_eq_ediv_of_nonneg i (by omega), Int.fmod_eq_emod_of_nonneg i (by omega)]
  exact laidT (xs := [.int (i / j), .int (i % j)]) (us := [.int (i / j) s.toks, .int (i % j) (s.toks + 1)]) I (.cons ⟨_, rfl⟩ (.cons ⟨_, rfl⟩ .nil)) (by simp only [List.length_cons, List.length_nil]; rw [sizeLine_eq]; decide) q
end
end Gd
namespace Gd
open PySem PySem.Spec L2
section
variable {mg : Str → Option Value} {nm : Nat → Str}
def lift1 (K : PySem.W.Frag) (mg : Str → Option Value) (nm : Nat → Str) (f : W → M W) : V → Hp → VK → Prop := fun x H Q => ∃ w st j Z, Rel K H j st Z ∧ Wr K mg nm H j st Z x w ∧ RWp (f w st) (OkW K mg nm H j st Z Q)
def lift2 (K : PySem.W.Frag) (mg : Str → Option Value) (nm : Nat → Str) (f : W → W → M W) : R2 := fun x y H Q => ∃ w1 w2 st j Z, Rel K H j st Z ∧ Wr K mg nm H j st Z x w1 ∧ Wr K mg nm H j st Z y w2 ∧ RWp (f w1 w2 st) (OkW K mg nm H j st Z Q)
def liftL (K : PySem.W.Frag) (mg : Str → Option Value) (nm : Nat → Str) (f : List W → M W) : List V → Hp → VK → Prop := fun vs H Q => ∃ ws st j Z, Rel K H j st Z ∧ WrL K mg nm H j st Z vs ws ∧ RWp (f ws st) (OkW K mg nm H j st Z Q)
theorem opD_out {K : PySem.W.Frag} {f : PyData → PyData → Option PyData} {x y : V} {H : Hp} {Q : VK} (h : lift2 K mg nm (opD f) x y H Q) :
    ∃ st j Z d1 d2 z, Rel K H j st Z ∧ Rv K H (Lz j st Z) x d1 ∧ Rv K H (Lz j st Z) y d2 ∧ f d1 d2 = some z ∧ OkW K mg nm H j st Z Q (.d z) st := by
  obtain ⟨w1, w2, st, j, Z, r, h1, h2, q⟩ := h
  unfold opD at q
  rw [rwp_bind] at q
  obtain ⟨d1, q, v1⟩ := rd_rv r h1 q
  rw [rwp_bind] at q
  obtain ⟨d2, q, v2⟩ := rd_rv r h2 q
  rw [rwp_bind] at q
  obtain ⟨z, e, q⟩ := rwp_ofO q
  exact ⟨st, j, Z, d1, d2, z, r, v1, v2, e, q⟩
variable {X : Cx}
theorem Rv.int_inv {K : PySem.W.Frag} {H : Hp} {L : Addr → Prop} {v : V} {i : Int} (h : Rv K H L v (.int i)) : v = .int i := by cases h; rfl
theorem Rv.str_inv {K : PySem.W.Frag} {H : Hp} {L : Addr → Prop} {v : V} {i : Str} (h : Rv K H L v (.str i)) : v = .str i := by cases h; rfl
theorem Rv.bool_inv {K : PySem.W.Frag} {H : Hp} {L : Addr → Prop} {v : V} {i : Bool} (h : Rv K H L v (.bool i)) : v = .bl i := by cases h; rfl
theorem Rv.none_inv {K : PySem.W.Frag} {H : Hp} {L : Addr → Prop} {v : V} (h : Rv K H L v .none) : v = .non := by cases h; rfl
theorem Rv.tup_inv {K : PySem.W.Frag} {H : Hp} {L : Addr → Prop} {v : V} {ds : List PyData} (h : Rv K H L v (.tuple ds)) : ∃ a xs, v = .ref a ∧ TpQ K H a xs ∧ DrL K H L xs ds := by
  cases h with
  | tup e h => exact ⟨_, _, rfl, e, h⟩
theorem Rv.list_inv {K : PySem.W.Frag} {H : Hp} {L : Addr → Prop} {v : V} {ds : List PyData} (h : Rv K H L v (.list ds)) : ∃ a xs, v = .ref a ∧ H a = some (.lst xs) ∧ DrL K H L xs ds := by
  cases h with
  | lst e h => exact ⟨_, _, rfl, e, h⟩
theorem or_add : OpR X (binaryOp .Add) (lift2 X.K mg nm (opD (binD .add))) := by
  intro pins s σ H x y v u Q I rx ry h
  obtain ⟨st, j, Z, d1, d2, z, r, v1, v2, e, q⟩ := opD_out h
  cases d1 <;> cases d2 <;> simp only [binD] at e <;> try cases e
  · cases v1.int_inv; cases v2.int_inv
    exact op_add pins s σ H _ _ v u Q I rx ry ⟨_, _, rfl, rfl, q.same r (.int _)⟩
  · cases v1.str_inv; cases v2.str_inv
    split at e
    · rename_i hz
      cases e
      exact op_add_str pins s σ H _ _ v u Q I rx ry ⟨_, _, rfl, rfl, by rw [← SZ_eq]; exact hz, q.same r (.str _)⟩
    · cases e
  · obtain ⟨a, xs, rfl, h1, g1⟩ := v1.list_inv
    obtain ⟨b, ys, rfl, h2, g2⟩ := v2.list_inv
    split at e
    · rename_i hz
      cases e
      exact op_cat pins s σ H _ _ v u Q I rx ry ⟨_, _, _, _, rfl, rfl, h1, h2, by rw [g1.length, g2.length, ← SZ_eq]; exact hz, fun p hp => q.lst r (g1.append g2) hp⟩
    · cases e
  · obtain ⟨a, xs, rfl, h1, g1⟩ := v1.tup_inv
    obtain ⟨b, ys, rfl, h2, g2⟩ := v2.tup_inv
    split at e
    · rename_i hz
      cases e
      refine op_catP pins s σ H _ _ v u Q I rx ry ⟨_, _, _, _, rfl, rfl, h1.sqt, h2.sqt, by rw [g1.length, g2.length, ← SZ_eq]; exact hz, fun e => ?_, fun _ e => ?_, fun p o hp hd => q.tup r (g1.append g2) hp hd⟩
      · subst e
        cases g1
        exact q.same r (.tup h2 g2)
      · subst e
        cases g2
        rw [List.append_nil] at q
        exact q.same r (.tup h1 g1)
    · cases e
theorem or_sub : OpR X (binaryOp .Sub) (lift2 X.K mg nm (opD (binD .sub))) := by
  intro pins s σ H x y v u Q I rx ry h
  obtain ⟨st, j, Z, d1, d2, z, r, v1, v2, e, q⟩ := opD_out h
  cases d1 <;> cases d2 <;> simp only [binD] at e <;> try cases e
  cases v1.int_inv; cases v2.int_inv
  exact op_sub pins s σ H _ _ v u Q I rx ry ⟨_, _, rfl, rfl, q.same r (.int _)⟩
theorem small_of {i : Int} (h : small i = true) : -(2 ^ 64) < i ∧ i < 2 ^ 64 := by
  unfold small at h
  simpa using h
theorem DrL.rep {K : PySem.W.Frag} {H : Hp} {L : Addr → Prop} {vs : List V} {ds : List PyData} (h : DrL K H L vs ds) : ∀ n : Nat, DrL K H L (List.replicate n vs).flatten (List.replicate n ds).flatten
  | 0 => .nil
  | n + 1 => by
    rw [List.replicate_succ, List.replicate_succ, List.flatten_cons, List.flatten_cons]
    exact DrL.append h (DrL.rep h n)
theorem mul_ok {x : Str} {k : Int} (h : 0 ≤ k ∧ k ≤ 1000 ∧ x.length ≤ 1000) : MulOk x k := by
  obtain ⟨h1, h2, h3⟩ := h
  refine ⟨?_, fun a _ => ?_, fun a _ => ?_⟩
  · rw [decide_eq_false (by omega), decide_eq_false (by omega)]; rfl
  · intro q
    have l := Int.lt_ediv_add_one_mul_self (9223372036854775807 : Int) (b := k) (by omega)
    have e : ((2 : Int) ^ 63 - 1) = 9223372036854775807 := by decide +kernel
    rw [e] at q
    have m := Int.mul_le_mul_of_nonneg_right (show (9223372036854775807 : Int) / k + 1 ≤ 1000 by omega) (show 0 ≤ k by omega)
    omega
  · have : x.length * k.toNat ≤ 1000 * 1000 := Nat.mul_le_mul h3 (by omega)
    show decide (x.length * k.toNat > sizeLine) = false
    rw [decide_eq_false]
    rw [sizeLine_eq]
    omega
theorem or_mul : OpR X (binaryOp .Mult) (lift2 X.K mg nm (opD (binD .mul))) := by
  intro pins s σ H x y v u Q I rx ry h
  obtain ⟨st, j, Z, d1, d2, z, r, v1, v2, e, q⟩ := opD_out h
  cases d1 <;> cases d2 <;> simp only [binD] at e <;> try cases e
  · cases v1.int_inv; cases v2.int_inv
    split at e
    · rename_i hz
      cases e
      refine op_mul pins s σ H _ _ v u Q I rx ry ⟨_, _, rfl, rfl, ?_, q.same r (.int _)⟩
      rcases Bool.or_eq_true_iff.mp hz with hz | hz
      · exact .inl (small_of hz)
      · exact .inr (small_of hz)
    · cases e
  · rename_i i j
    cases v1.str_inv; cases v2.int_inv
    split at e
    · rename_i hz
      cases e
      obtain ⟨t, rfl⟩ := rx
      obtain ⟨t', rfl⟩ := ry
      refine PySem.SB.mul (mul_ok hz) fun t2 k2 => ?_
      exact ⟨.str (Txt.mul i j), H, I.tok _, ⟨_, rfl⟩, q.same r (.str _)⟩
    · cases e
  · obtain ⟨a, xs, rfl, h1, g1⟩ := v1.list_inv
    cases v2.int_inv
    split at e
    · rename_i hz
      cases e
      refine op_rep pins s σ H _ _ v u Q I rx ry ⟨a, _, xs, rfl, rfl, h1, by omega, by omega, by rw [g1.length, ← SZ_eq]; exact hz.2.2, fun p hp => q.lst r (g1.rep _) hp⟩
    · cases e
theorem or_fdiv : OpR X (binaryOp .FloorDiv) (lift2 X.K mg nm (opD (binD .fdiv))) := by
  intro pins s σ H x y v u Q I rx ry h
  obtain ⟨st, j, Z, d1, d2, z, r, v1, v2, e, q⟩ := opD_out h
  cases d1 <;> cases d2 <;> simp only [binD] at e <;> try cases e
  cases v1.int_inv; cases v2.int_inv
  split at e
  · rename_i hz
    cases e
    exact op_fdivN pins s σ H _ _ v u Q I rx ry ⟨_, _, rfl, rfl, hz, q.same r (.int _)⟩
  · cases e
theorem or_mod : OpR X (binaryOp .Mod) (lift2 X.K mg nm (opD (binD .mod))) := by
  intro pins s σ H x y v u Q I rx ry h
  obtain ⟨st, j, Z, d1, d2, z, r, v1, v2, e, q⟩ := opD_out h
  cases d1 <;> cases d2 <;> simp only [binD] at e <;> try cases e
  cases v1.int_inv; cases v2.int_inv
  split at e
  · rename_i hz
    cases e
    exact op_modN pins s σ H _ _ v u Q I rx ry ⟨_, _, rfl, rfl, hz, q.same r (.int _)⟩
  · cases e
theorem or_pow : OpR X (binaryOp .Pow) (lift2 X.K mg nm (opD (binD .pow))) := by
  intro pins s σ H x y v u Q I rx ry h
  obtain ⟨st, j, Z, d1, d2, z, r, v1, v2, e, q⟩ := opD_out h
  cases d1 <;> cases d2 <;> simp only [binD] at e <;> try cases e
  cases v1.int_inv; cases v2.int_inv
  split at e
  · rename_i hz
    cases e
    exact op_pow pins s σ H _ _ v u Q I rx ry ⟨_, _, rfl, rfl, hz, q.same r (.int _)⟩
  · cases e
def opOf : BOp → Operator
  | .add => .Add
  | .sub => .Sub
  | .mul => .Mult
  | .fdiv => .FloorDiv
  | .mod => .Mod
  | .pow => .Pow
theorem or_bin (o : BOp) : OpR X (binaryOp (opOf o)) (lift2 X.K mg nm (opD (binD o))) := by
  cases o
  · exact or_add
  · exact or_sub
  · exact or_mul
  · exact or_fdiv
  · exact or_mod
  · exact or_pow
end
section
variable {mg : Str → Option Value} {nm : Nat → Str} {X : Cx}
theorem cmpM_out {K : PySem.W.Frag} {o : COp} {x y : V} {H : Hp} {Q : VK} (h : lift2 K mg nm (cmpM o) x y H Q) :
    ∃ st j Z d1 d2 z, Rel K H j st Z ∧ Rv K H (Lz j st Z) x d1 ∧ Rv K H (Lz j st Z) y d2 ∧ cmpD o d1 d2 = some z ∧ Q (.bl z) H := by
  obtain ⟨w1, w2, st, j, Z, r, h1, h2, q⟩ := h
  unfold cmpM cmpB at q
  rw [rwp_bind] at q
  rw [rwp_bind] at q
  obtain ⟨d1, q, v1⟩ := rd_rv r h1 q
  rw [rwp_bind] at q
  obtain ⟨d2, q, v2⟩ := rd_rv r h2 q
  obtain ⟨z, e, q⟩ := rwp_ofO q
  exact ⟨st, j, Z, d1, d2, z, r, v1, v2, e, OkW.same q r (.bl z)⟩
theorem or_eq (hu : X.A.units + 64 < cLine) : OpR X (compareOp .Eq) (lift2 X.K mg nm (cmpM .eq)) := by
  intro pins s σ H x y v u Q I rx ry h
  obtain ⟨st, j, Z, d1, d2, z, r, v1, v2, e, q⟩ := cmpM_out h
  simp only [cmpD] at e
  split at e
  · rename_i hs
    cases e
    cases b : bothStr d1 d2 with
    | true =>
      cases d1 <;> cases d2 <;> try cases b
      cases v1
      cases v2
      refine op_eq pins s σ H _ _ v u Q I rx ry ⟨rfl, ?_⟩
      rw [dec_str]
      exact q
    | false =>
    rw [b, Bool.false_or] at hs
    obtain ⟨s1, s2⟩ := Bool.and_eq_true_iff.mp hs
    exact op_eqD hu pins s σ H _ _ v u Q I rx ry ⟨d1, d2, v1.d0.dp (SeqAt.canLay_of_shaped s1), v2.d0.dp (SeqAt.canLay_of_shaped s2), s1, s2, q⟩
  · cases e
theorem or_ne (hu : X.A.units + 64 < cLine) : OpR X (compareOp .NotEq) (lift2 X.K mg nm (cmpM .ne)) := by
  intro pins s σ H x y v u Q I rx ry h
  obtain ⟨st, j, Z, d1, d2, z, r, v1, v2, e, q⟩ := cmpM_out h
  simp only [cmpD] at e
  split at e
  · rename_i hs
    cases e
    cases b : bothStr d1 d2 with
    | true =>
      cases d1 <;> cases d2 <;> try cases b
      cases v1
      cases v2
      refine op_ne pins s σ H _ _ v u Q I rx ry ⟨rfl, ?_⟩
      rw [dec_str]
      exact q
    | false =>
    rw [b, Bool.false_or] at hs
    obtain ⟨s1, s2⟩ := Bool.and_eq_true_iff.mp hs
    exact op_neD hu pins s σ H _ _ v u Q I rx ry ⟨d1, d2, v1.d0.dp (SeqAt.canLay_of_shaped s1), v2.d0.dp (SeqAt.canLay_of_shaped s2), s1, s2, q⟩
  · cases e
theorem or_lt : OpR X (compareOp .Lt) (lift2 X.K mg nm (cmpM .lt)) := by
  intro pins s σ H x y v u Q I rx ry h
  obtain ⟨st, j, Z, d1, d2, z, r, v1, v2, e, q⟩ := cmpM_out h
  cases d1 <;> cases d2 <;> simp only [cmpD] at e <;> try cases e
  · cases v1.int_inv; cases v2.int_inv
    exact op_lt pins s σ H _ _ v u Q I rx ry ⟨_, _, rfl, rfl, q⟩
  · cases v1.str_inv; cases v2.str_inv
    exact op_lt_str pins s σ H _ _ v u Q I rx ry ⟨_, _, rfl, rfl, q⟩
theorem or_le : OpR X (compareOp .LtE) (lift2 X.K mg nm (cmpM .le)) := by
  intro pins s σ H x y v u Q I rx ry h
  obtain ⟨st, j, Z, d1, d2, z, r, v1, v2, e, q⟩ := cmpM_out h
  cases d1 <;> cases d2 <;> simp only [cmpD] at e <;> try cases e
  cases v1.int_inv; cases v2.int_inv
  exact op_le pins s σ H _ _ v u Q I rx ry ⟨_, _, rfl, rfl, q⟩
theorem or_gt : OpR X (compareOp .Gt) (lift2 X.K mg nm (cmpM .gt)) := by
  intro pins s σ H x y v u Q I rx ry h
  obtain ⟨st, j, Z, d1, d2, z, r, v1, v2, e, q⟩ := cmpM_out h
  cases d1 <;> cases d2 <;> simp only [cmpD] at e <;> try cases e
  cases v1.int_inv; cases v2.int_inv
  exact op_gt pins s σ H _ _ v u Q I rx ry ⟨_, _, rfl, rfl, q⟩
theorem or_ge : OpR X (compareOp .GtE) (lift2 X.K mg nm (cmpM .ge)) := by
  intro pins s σ H x y v u Q I rx ry h
  obtain ⟨st, j, Z, d1, d2, z, r, v1, v2, e, q⟩ := cmpM_out h
  cases d1 <;> cases d2 <;> simp only [cmpD] at e <;> try cases e
  cases v1.int_inv; cases v2.int_inv
  exact op_ge pins s σ H _ _ v u Q I rx ry ⟨_, _, rfl, rfl, q⟩
theorem isN_of {K : PySem.W.Frag} {H : Hp} {L : Addr → Prop} {v : V} {d : PyData} (h : Rv K H L v d) : (decide (v = .non)) = (match d with | .none => true | _ => false) := by
  cases h <;> rfl
theorem or_is : OpR X (compareOp .Is) (lift2 X.K mg nm (cmpM .is)) := by
  intro pins s σ H x y v u Q I rx ry h
  obtain ⟨st, j, Z, d1, d2, z, r, v1, v2, e, q⟩ := cmpM_out h
  have e2 : d2 = .none := by cases d2 <;> first | rfl | simp [cmpD] at e
  subst e2
  have ez : decide (x = .non) = z := by
    rw [isN_of v1]
    cases d1 <;> simp only [cmpD, Option.some.injEq] at e <;> exact e
  exact op_isN pins s σ H _ _ v u Q I rx ry ⟨v2.none_inv, by rw [ez]; exact q⟩
theorem or_isnot : OpR X (compareOp .IsNot) (lift2 X.K mg nm (cmpM .isnot)) := by
  intro pins s σ H x y v u Q I rx ry h
  obtain ⟨st, j, Z, d1, d2, z, r, v1, v2, e, q⟩ := cmpM_out h
  have e2 : d2 = .none := by cases d2 <;> first | rfl | simp [cmpD] at e
  subst e2
  have ez : (!decide (x = .non)) = z := by
    rw [isN_of v1]
    cases d1 <;> simp only [cmpD, Option.some.injEq] at e <;> exact e
  exact op_notN pins s σ H _ _ v u Q I rx ry ⟨v2.none_inv, by rw [ez]; exact q⟩
theorem flat_of {K : PySem.W.Frag} {H : Hp} {L : Addr → Prop} {v : V} {d : PyData} (h : Dr K H L v d) (f : flatD d = true) : flatV v = true := by
  cases h <;> first | rfl | cases f
theorem eqV_of {K : PySem.W.Frag} {H : Hp} {L L' : Addr → Prop} {v u : V} {d e : PyData} (h : Dr K H L v d) (f : flatD d = true) (h' : Dr K H L' u e) (f' : flatD e = true) : eqV v u = PyData.eqv d e := by
  cases h <;> (first | cases f | skip) <;> cases h' <;> (first | cases f' | skip) <;> simp only [eqV, PyData.eqv]
theorem inV_of {K : PySem.W.Frag} {H : Hp} {L L' : Addr → Prop} {u : V} {e : PyData} (h' : Dr K H L' u e) (f' : flatD e = true) :
    ∀ {vs : List V} {ds : List PyData}, DrL K H L vs ds → ds.all flatD = true → vs.all flatV = true ∧ inV u vs = ds.any (fun y => PyData.eqv y e)
  | _, _, .nil, _ => ⟨rfl, rfl⟩
  | _, _, .cons h t, f => by
    rw [List.all_cons] at f
    obtain ⟨f1, f2⟩ := Bool.and_eq_true_iff.mp f
    obtain ⟨a, b⟩ := inV_of h' f' t f2
    refine ⟨?_, ?_⟩
    · rw [List.all_cons, a, flat_of h f1]
      rfl
    · unfold inV at b ⊢
      rw [List.any_cons, List.any_cons, b, eqV_of h f1 h' f']
theorem Rv.flat {K : PySem.W.Frag} {H : Hp} {L : Addr → Prop} {v : V} {d : PyData} (h : Rv K H L v d) : Dr K H (fun _ => False) v d := h.d0
theorem rIn_of {K : PySem.W.Frag} {H : Hp} {L L' : Addr → Prop} {x y : V} {d1 d2 : PyData} {z : Bool} (neg : Bool) (hd : ¬ ∃ kvs, d2 = .dict kvs) (hs : ¬ ∃ q, d2 = .str q) {Q : VK} (v1 : Rv K H L x d1) (v2 : Rv K H L' y d2) (e : inD d1 d2 = some z) (q : Q (.bl (if neg then !z else z)) H) : rIn K neg x y H Q := by
  cases d2 with
  | str q => exact (hs ⟨q, rfl⟩).elim
  | dict kvs => exact (hd ⟨kvs, rfl⟩).elim
  | list ds =>
    obtain ⟨a, vs, rfl, h1, g1⟩ := v2.list_inv
    simp only [inD] at e
    split at e
    · rename_i hf
      cases e
      obtain ⟨f1, f2⟩ := Bool.and_eq_true_iff.mp hf
      obtain ⟨a1, a2⟩ := inV_of v1.d0 f1 g1 f2
      exact ⟨a, vs, rfl, .inl (.inl (.inl h1)), flat_of v1.d0 f1, a1, by rw [a2]; exact q⟩
    · cases e
  | tuple ds =>
    obtain ⟨a, vs, rfl, h1, g1⟩ := v2.tup_inv
    simp only [inD] at e
    split at e
    · rename_i hf
      cases e
      obtain ⟨f1, f2⟩ := Bool.and_eq_true_iff.mp hf
      obtain ⟨a1, a2⟩ := inV_of v1.d0 f1 g1 f2
      exact ⟨a, vs, rfl, .inr h1.sqt, flat_of v1.d0 f1, a1, by rw [a2]; exact q⟩
    · cases e
  | none => simp [inD] at e
  | bool b => simp [inD] at e
  | int b => simp [inD] at e
end
end Gd
namespace Gd
open PySem PySem.Spec L2
section
variable {mg : Str → Option Value} {nm : Nat → Str} {X : Cx}
theorem keyD_inj {k k' : Key} (h : PyData.eqv (keyD k) (keyD k') = true) : k = k' := by
  cases k with
  | inl a => cases k' with
    | inl b => rw [eq_of_beq (show (a == b) = true by simpa only [keyD, PyData.eqv] using h)]
    | inr b => simp [keyD, PyData.eqv] at h
  | inr a => cases k' with
    | inl b => simp [keyD, PyData.eqv] at h
    | inr b => rw [eq_of_beq (show (a == b) = true by simpa only [keyD, PyData.eqv] using h)]
theorem eqv_keyD (k k' : Key) : PyData.eqv (keyD k) (keyD k') = decide (k = k') := by
  by_cases e : k = k'
  · subst e
    rw [decide_eq_true rfl]
    cases k <;> simp [keyD, PyData.eqv]
  · rw [decide_eq_false e]
    cases h : PyData.eqv (keyD k) (keyD k') with
    | false => rfl
    | true => exact absurd (keyD_inj h) e
theorem getKey_of {K : PySem.W.Frag} {H : Hp} {L : Addr → Prop} (k : Key) : ∀ {kvs : List (Key × V)} {ds : List (PyData × PyData)}, ds.map (·.1) = kvs.map (fun p => keyD p.1) → DrL K H L (kvs.map (·.2)) (ds.map (·.2)) →
    (∀ z, getKey (keyD k) ds = some z → ∃ v, valV kvs k = some v ∧ Dr K H L v z) ∧ (hasKey (keyD k) ds = (valV kvs k).isSome)
  | [], [], _, _ => ⟨(fun z e => by cases e), rfl⟩
  | [], _ :: _, e, _ => by cases e
  | _ :: _, [], e, _ => by cases e
  | (a, v) :: kvs, (b, d) :: ds, e, h => by
    injection e with e1 e2
    cases h with
    | cons hd ht =>
      obtain ⟨i1, i2⟩ := getKey_of k e2 ht
      have e1 : b = keyD a := e1
      subst e1
      have ev : valV ((a, v) :: kvs) k = if a = k then some v else valV kvs k := by
        unfold valV
        rw [List.find?_cons]
        by_cases ea : a = k
        · rw [if_pos ea]
          simp [ea]
        · rw [if_neg ea]
          simp [ea]
      refine ⟨fun z ez => ?_, ?_⟩
      · unfold getKey at ez
        rw [eqv_keyD] at ez
        by_cases ea : a = k
        · rw [ev, if_pos ea]
          rw [decide_eq_true ea] at ez
          cases ez
          exact ⟨v, rfl, hd⟩
        · rw [ev, if_neg ea]
          rw [decide_eq_false ea] at ez
          exact i1 z ez
      · unfold hasKey at i2 ⊢
        rw [List.any_cons, i2, ev, eqv_keyD]
        by_cases ea : a = k
        · rw [if_pos ea, decide_eq_true ea]
          rfl
        · rw [if_neg ea, decide_eq_false ea]
          rfl
theorem keyOf_d {K : PySem.W.Frag} {H : Hp} {L : Addr → Prop} {x : V} {d : PyData} (h : Rv K H L x d) (f : (∃ i, d = .int i) ∨ ∃ s, d = .str s) : ∃ k, d = keyD k ∧ x = kV k := by
  rcases f with ⟨i, rfl⟩ | ⟨s, rfl⟩
  · exact ⟨.inl i, rfl, h.int_inv⟩
  · exact ⟨.inr s, rfl, h.str_inv⟩
theorem eqv_tkeyD (k : Key) (t : List Key) : PyData.eqv (tkeyD t) (keyD k) = false := by
  unfold tkeyD
  cases k <;> simp only [keyD, PyData.eqv]
theorem noKey_t (k : Key) : ∀ {kvs : List (List Key × V)} {ds : List (PyData × PyData)}, ds.map (·.1) = kvs.map (fun p => tkeyD p.1) → getKey (keyD k) ds = none
  | [], [], _ => rfl
  | [], _ :: _, e => by cases e
  | _ :: _, [], e => by cases e
  | (a, v) :: kvs, (b, d) :: ds, e => by
    injection e with e1 e2
    have e1 : b = tkeyD a := e1
    subst e1
    unfold getKey
    rw [eqv_tkeyD, noKey_t k e2]
    rfl
theorem tk_flat {kvs : List (List Key × V)} {ds : List (PyData × PyData)} (ne : kvs ≠ []) (b : ds.map (·.1) = kvs.map (fun p => tkeyD p.1)) (h : ds.all flatK = true) : False := by
  cases kvs with
  | nil => exact ne rfl
  | cons p r => cases ds with
    | nil => cases b
    | cons q t =>
      injection b with b1 b2
      rw [List.all_cons] at h
      have := (Bool.and_eq_true_iff.mp h).1
      unfold flatK at this
      rw [show q.1 = tkeyD p.1 from b1] at this
      cases this
theorem or_in (hu : X.A.units + 1 < cLine) : OpR X (compareOp .In) (lift2 X.K mg nm (cmpM .isin)) := by
  intro pins s σ H x y v u Q I rx ry h
  obtain ⟨st, j, Z, d1, d2, z, r, v1, v2, e, q⟩ := cmpM_out h
  simp only [cmpD] at e
  cases d2 with
  | str w =>
    cases v2.str_inv
    cases d1 <;> simp only [inD] at e <;> try cases e
    cases v1.str_inv
    exact op_in_str pins s σ H _ _ v u Q I rx ry ⟨_, _, rfl, rfl, q⟩
  | dict kvs =>
    have f : ((∃ i, d1 = .int i) ∨ ∃ s, d1 = .str s) ∧ kvs.all flatK = true ∧ hasKey d1 kvs = z := by
      cases d1 <;> simp only [inD] at e <;> try cases e
      · split at e
        · cases e; exact ⟨.inl ⟨_, rfl⟩, by assumption, rfl⟩
        · cases e
      · split at e
        · cases e; exact ⟨.inr ⟨_, rfl⟩, by assumption, rfl⟩
        · cases e
    obtain ⟨f, fl, e'⟩ := f
    obtain ⟨k, rfl, rfl⟩ := keyOf_d v1 f
    cases v2 with
    | dK a b c =>
      obtain rfl : u = _ := ry
      refine d_in hu I (.inl ⟨_, k, a, rfl, rfl⟩) rx fun s' I' => ⟨.bl z, H, I', ?_, q⟩
      have := (getKey_of k b c).2
      rw [e'] at this
      rw [this]
      rfl
    | dT a ne b c => exact (tk_flat ne b fl).elim
  | list ds => exact op_in_seq pins s σ H x y v u Q I rx ry (rIn_of false (fun ⟨_, z⟩ => by cases z) (fun ⟨_, z⟩ => by cases z) v1 v2 e q)
  | tuple ds => exact op_in_seq pins s σ H x y v u Q I rx ry (rIn_of false (fun ⟨_, z⟩ => by cases z) (fun ⟨_, z⟩ => by cases z) v1 v2 e q)
  | none => simp [inD] at e
  | bool b => simp [inD] at e
  | int b => simp [inD] at e
theorem or_notin (hu : X.A.units + 1 < cLine) : OpR X (compareOp .NotIn) (lift2 X.K mg nm (cmpM .notin)) := by
  intro pins s σ H x y v u Q I rx ry h
  obtain ⟨st, j, Z, d1, d2, z0, r, v1, v2, e0, q⟩ := cmpM_out h
  simp only [cmpD] at e0
  obtain ⟨z, e, ez⟩ := Option.map_eq_some_iff.mp e0
  subst ez
  cases d2 with
  | str w =>
    cases v2.str_inv
    cases d1 <;> simp only [inD] at e <;> try cases e
    cases v1.str_inv
    exact op_notin_str pins s σ H _ _ v u Q I rx ry ⟨_, _, rfl, rfl, q⟩
  | dict kvs =>
    have f : ((∃ i, d1 = .int i) ∨ ∃ s, d1 = .str s) ∧ kvs.all flatK = true ∧ hasKey d1 kvs = z := by
      cases d1 <;> simp only [inD] at e <;> try cases e
      · split at e
        · cases e; exact ⟨.inl ⟨_, rfl⟩, by assumption, rfl⟩
        · cases e
      · split at e
        · cases e; exact ⟨.inr ⟨_, rfl⟩, by assumption, rfl⟩
        · cases e
    obtain ⟨f, fl, e'⟩ := f
    obtain ⟨k, rfl, rfl⟩ := keyOf_d v1 f
    cases v2 with
    | dK a b c =>
      obtain rfl : u = _ := ry
      refine d_notIn hu I (.inl ⟨_, k, a, rfl, rfl⟩) rx fun s' I' => ⟨.bl (!z), H, I', ?_, q⟩
      have := (getKey_of k b c).2
      rw [e'] at this
      rw [this]
      rfl
    | dT a ne b c => exact (tk_flat ne b fl).elim
  | list ds => exact op_notIn_seq pins s σ H x y v u Q I rx ry (rIn_of true (fun ⟨_, z⟩ => by cases z) (fun ⟨_, z⟩ => by cases z) v1 v2 e q)
  | tuple ds => exact op_notIn_seq pins s σ H x y v u Q I rx ry (rIn_of true (fun ⟨_, z⟩ => by cases z) (fun ⟨_, z⟩ => by cases z) v1 v2 e q)
  | none => simp [inD] at e
  | bool b => simp [inD] at e
  | int b => simp [inD] at e
def copOf : COp → CmpOp
  | .eq => .Eq
  | .ne => .NotEq
  | .lt => .Lt
  | .le => .LtE
  | .gt => .Gt
  | .ge => .GtE
  | .is => .Is
  | .isnot => .IsNot
  | .isin => .In
  | .notin => .NotIn
theorem or_cmp (hu : X.A.units + 64 < cLine) (o : COp) : OpR X (compareOp (copOf o)) (lift2 X.K mg nm (cmpM o)) := by
  cases o
  · exact or_eq hu
  · exact or_ne hu
  · exact or_lt
  · exact or_le
  · exact or_gt
  · exact or_ge
  · exact or_is
  · exact or_isnot
  · exact or_in (by omega)
  · exact or_notin (by omega)
theorem atI_of {K : PySem.W.Frag} {H : Hp} {L : Addr → Prop} {vs : List V} {ds : List PyData} {i : Int} {z : PyData} (h : DrL K H L vs ds) (e : ((ixD ds.length i).bind fun k => ds[k]?) = some z) : ∃ v, atI vs i = some v ∧ Dr K H L v z := by
  obtain ⟨k, e1, e2⟩ := Option.bind_eq_some_iff.mp e
  obtain ⟨v, a, b⟩ := h.get e2
  refine ⟨v, ?_, b⟩
  unfold atI
  rw [h.length, show ixN ds.length i = some k from e1]
  exact a
theorem ix_dict (hu : X.A.units + 1 < cLine) : IxR X (fun x y H Q => ∃ a v, x = .ref a ∧ DGet H a y (some v) ∧ Q v H) := by
  intro value slice pins s σ H x y v u Q I rx ry h hs
  obtain ⟨a, w, rfl, g, q⟩ := h
  obtain rfl : v = Value.ref a := rx
  exact PyProof.Rows.tail_any (dict_typeIs I g) PySem.F.slot_dict_getitem.lookup (d_getItem hu I g ry fun w' s3 I3 rw' => ⟨w, H, I3, rw', q⟩) hs
theorem ixr_idx (hu : X.A.units + 1 < cLine) : IxR X (lift2 X.K mg nm (opD idxD)) := by
  intro value slice pins s σ H x y v u Q I rx ry h hs
  obtain ⟨st, j, Z, d1, d2, z, r, v1, v2, e, q⟩ := opD_out h
  cases d1 with
  | tuple ds =>
    cases d2 <;> simp only [idxD] at e <;> try cases e
    cases v2.int_inv
    obtain ⟨a, vs, rfl, h1, g⟩ := v1.tup_inv
    obtain ⟨w, e1, e2⟩ := atI_of g e
    exact ix_tup value slice pins s σ H _ _ v u Q I rx ry ⟨a, vs, _, w, rfl, rfl, h1.sqt, e1, q.same r e2⟩ hs
  | list ds =>
    cases d2 <;> simp only [idxD] at e <;> try cases e
    cases v2.int_inv
    obtain ⟨a, vs, rfl, h1, g⟩ := v1.list_inv
    obtain ⟨w, e1, e2⟩ := atI_of g e
    exact ix_list value slice pins s σ H _ _ v u Q I rx ry ⟨a, vs, _, w, rfl, rfl, .inl (.inl h1), e1, q.same r e2⟩ hs
  | str w =>
    cases d2 <;> simp only [idxD] at e <;> try cases e
    cases v1.str_inv
    cases v2.int_inv
    split at e
    · rename_i hz
      obtain ⟨c, e1, e2⟩ := Option.map_eq_some_iff.mp e
      subst e2
      exact ix_str value slice pins s σ H _ _ v u Q I rx ry ⟨_, _, c, rfl, rfl, by rw [← SZ_eq]; exact hz, e1, q.same r (.str _)⟩ hs
    · cases e
  | dict kvs =>
    have f : (∃ i, d2 = .int i) ∨ ∃ s, d2 = .str s := by
      cases d2 <;> simp only [idxD] at e <;> first | cases e; done | exact .inl ⟨_, rfl⟩ | exact .inr ⟨_, rfl⟩
    have e' : getKey d2 kvs = some z := by
      rcases f with ⟨i, rfl⟩ | ⟨i, rfl⟩ <;> simpa only [idxD] using e
    obtain ⟨k, rfl, rfl⟩ := keyOf_d v2 f
    cases v1 with
    | dK a b c =>
      obtain ⟨w, g1, g2⟩ := (getKey_of k b c).1 z e'
      exact ix_dict hu value slice pins s σ H _ _ v u Q I rx ry ⟨_, w, rfl, .inl ⟨_, k, a, rfl, g1.symm⟩, q.same r g2⟩ hs
    | dT a ne b c =>
      rw [noKey_t k b] at e'
      cases e'
  | none => simp [idxD] at e
  | bool b => simp [idxD] at e
  | int b => simp [idxD] at e
def liftS (K : PySem.W.Frag) (mg : Str → Option Value) (nm : Nat → Str) : V → Option Int → Option Int → Hp → VK → Prop := fun x lo hi H Q =>
  ∃ w st j Z, Rel K H j st Z ∧ Wr K mg nm H j st Z x w ∧ RWp ((do let xd ← rd w; let z ← ofO (slcD lo hi xd); M.pure (W.d z)) st) (OkW K mg nm H j st Z Q)
theorem DrL.cut {K : PySem.W.Frag} {H : Hp} {L : Addr → Prop} {vs : List V} {ds : List PyData} (h : DrL K H L vs ds) (lo hi : Option Int) : DrL K H L (cutV vs lo hi) (cutD ds lo hi) := by
  unfold cutV cutD
  rw [h.length]
  exact (h.drop _).take _
theorem slr_all : SlR X (liftS X.K mg nm) := by
  intro pins s σ H x v vl vu lo hi sl Q I rx hs pl pu h
  obtain ⟨w, st, j, Z, r, hw, q⟩ := h
  rw [rwp_bind] at q
  obtain ⟨d, q, v1⟩ := rd_rv r hw q
  rw [rwp_bind] at q
  obtain ⟨z, e, q⟩ := rwp_ofO q
  have q : OkW X.K mg nm H j st Z Q (.d z) st := q
  cases d with
  | tuple ds =>
    simp only [slcD, Option.some.injEq] at e
    subst e
    obtain ⟨a, vs, rfl, h1, g⟩ := v1.tup_inv
    refine sl_tupP pins s σ H _ v vl vu lo hi sl Q I rx hs pl pu ⟨a, vs, rfl, h1.sqt, fun hw => ?_, fun p o hp hd => q.tup r (g.cut lo hi) hp hd⟩
    have ec : cutD ds lo hi = ds := by
      unfold cutD
      rw [← g.length, hw.1, hw.2, g.length]
      simp
    rw [ec] at q
    exact q.same r (.tup h1 g)
  | list ds =>
    simp only [slcD, Option.some.injEq] at e
    subst e
    obtain ⟨a, vs, rfl, h1, g⟩ := v1.list_inv
    exact sl_list pins s σ H _ v vl vu lo hi sl Q I rx hs pl pu ⟨a, vs, rfl, .inl (.inl h1), fun p hp => q.lst r (g.cut lo hi) hp⟩
  | str w =>
    cases v1.str_inv
    simp only [slcD] at e
    split at e
    · rename_i hz
      cases e
      exact sl_str pins s σ H _ v vl vu lo hi sl Q I rx hs pl pu ⟨w, rfl, by rw [← SZ_eq]; exact hz, q.same r (.str _)⟩
    · cases e
  | none => simp [slcD] at e
  | bool b => simp [slcD] at e
  | int b => simp [slcD] at e
  | dict b => simp [slcD] at e
end
end Gd
namespace Gd
open PySem PySem.Spec L2
section
variable {K : PySem.W.Frag} {mg : Str → Option Value} {nm : Nat → Str} {H : Hp} {j : List Addr} {Z : Addr → Prop}
inductive RvL (K : PySem.W.Frag) (H : Hp) (L : Addr → Prop) : List V → List PyData → Prop
  | nil : RvL K H L [] []
  | cons {v : V} {vs : List V} {d : PyData} {ds : List PyData} : Rv K H L v d → RvL K H L vs ds → RvL K H L (v :: vs) (d :: ds)
theorem rdL_rv {s : Sto} (r : Rel K H j s Z) : ∀ {vs : List V} {ws : List W} {P : List PyData → Sto → Prop}, WrL K mg nm H j s Z vs ws → RWp (rdL ws s) P → ∃ ds, P ds s ∧ RvL K H (Lz j s Z) vs ds
  | _, _, P, .nil, q => ⟨[], q, .nil⟩
  | _, _, P, .cons h t, q => by
    unfold rdL at q
    rw [rwp_bind] at q
    obtain ⟨d, q, v1⟩ := rd_rv r h q
    rw [rwp_bind] at q
    obtain ⟨ds, q, v2⟩ := rdL_rv r t q
    exact ⟨d :: ds, q, .cons v1 v2⟩
theorem RvL.one_inv {L : Addr → Prop} {vs : List V} {d : PyData} (h : RvL K H L vs [d]) : ∃ v, vs = [v] ∧ Rv K H L v d := by
  cases h with
  | cons h t => cases t; exact ⟨_, rfl, h⟩
theorem RvL.two_inv {L : Addr → Prop} {vs : List V} {d e : PyData} (h : RvL K H L vs [d, e]) : ∃ v u, vs = [v, u] ∧ Rv K H L v d ∧ Rv K H L u e := by
  cases h with
  | cons h t => obtain ⟨u, rfl, h2⟩ := t.one_inv; exact ⟨_, _, rfl, h, h2⟩
end
theorem biM_out {K : PySem.W.Frag} {mg : Str → Option Value} {nm : Nat → Str} {b : Bi} {vs : List V} {H : Hp} {Q : VK} (h : liftL K mg nm (biM b) vs H Q) :
    ∃ st j Z ds z, Rel K H j st Z ∧ RvL K H (Lz j st Z) vs ds ∧ biD b ds = some z ∧ OkW K mg nm H j st Z Q (.d z) st := by
  obtain ⟨ws, st, j, Z, r, h1, q⟩ := h
  unfold biM at q
  rw [rwp_bind] at q
  obtain ⟨ds, q, v1⟩ := rdL_rv r h1 q
  rw [rwp_bind] at q
  obtain ⟨z, e, q⟩ := rwp_ofO q
  exact ⟨st, j, Z, ds, z, r, v1, e, q⟩
section
variable {X : Cx} {mg : Str → Option Value} {nm : Nat → Str}
theorem intsD_inv : ∀ {ds : List PyData} {ns : List Int}, intsD ds = some ns → ds = ns.map .int
  | [], ns, e => by cases e; rfl
  | d :: ds, ns, e => by
    cases d <;> simp only [intsD] at e <;> try cases e
    obtain ⟨ms, e1, e2⟩ := Option.map_eq_some_iff.mp e
    subst e2
    rw [intsD_inv e1]
    rfl
theorem strsD_inv : ∀ {ds : List PyData} {ns : List Str}, strsD ds = some ns → ds = ns.map .str
  | [], ns, e => by cases e; rfl
  | d :: ds, ns, e => by
    cases d <;> simp only [strsD] at e <;> try cases e
    obtain ⟨ms, e1, e2⟩ := Option.map_eq_some_iff.mp e
    subst e2
    rw [strsD_inv e1]
    rfl
theorem boolsD_inv : ∀ {ds : List PyData} {ns : List Bool}, boolsD ds = some ns → ds = ns.map .bool
  | [], ns, e => by cases e; rfl
  | d :: ds, ns, e => by
    cases d <;> simp only [boolsD] at e <;> try cases e
    obtain ⟨ms, e1, e2⟩ := Option.map_eq_some_iff.mp e
    subst e2
    rw [boolsD_inv e1]
    rfl
theorem cr_len : CallR X (.builtin "len") (liftL X.K mg nm (biM .len)) := by
  intro pins s σ H vs us Q I r h
  obtain ⟨st, j, Z, ds, z, rl, v1, e, q⟩ := biM_out h
  match ds, v1, e with
  | [d], v1, e =>
    obtain ⟨v, rfl, vd⟩ := v1.one_inv
    simp only [biD] at e
    obtain ⟨n, e1, e2⟩ := Option.map_eq_some_iff.mp e
    subst e2
    have q := q.same rl (.int (n : Int))
    cases d with
    | tuple xs =>
      obtain ⟨a, ws, rfl, h1, g⟩ := vd.tup_inv
      cases e1
      exact call_len pins s σ H _ us Q I r ⟨_, ws.length, rfl, .inr ⟨ws, h1.sqt, rfl⟩, by rw [g.length]; exact q⟩
    | list xs =>
      obtain ⟨a, ws, rfl, h1, g⟩ := vd.list_inv
      cases e1
      exact call_len pins s σ H _ us Q I r ⟨_, ws.length, rfl, .inl ⟨ws, .inl (.inl h1), rfl⟩, by rw [g.length]; exact q⟩
    | str y =>
      cases vd.str_inv
      simp only [lenD] at e1
      split at e1
      · rename_i hz
        cases e1
        exact call_len pins s σ H _ us Q I r ⟨_, y.length, rfl, ⟨by rw [← SZ_eq]; exact hz, rfl⟩, q⟩
      · cases e1
    | dict kvs =>
      cases e1
      cases vd with
      | dK a b c =>
        obtain ⟨u, rfl, rx⟩ := vals1 r
        cases rx
        have hl := congrArg List.length b
        rw [List.length_map, List.length_map] at hl
        exact d_len I a fun t s' I' => ⟨.int _, H, I', ⟨t, by rw [hl]⟩, q⟩
      | dT h1 ne b c =>
        have hl := congrArg List.length b
        rw [List.length_map, List.length_map] at hl
        obtain ⟨u, rfl, rx⟩ := vals1 r
        cases rx
        obtain ⟨z, hd, ys, rel, dd⟩ := dt_rd I.hok h1
        have hl2 := Paired.length rel
        refine call_len_dictH hd dd (by rw [← hl2]; rw [sizeLine_eq] at z; omega) ?_
        exact ⟨.int _, H, I.tok _, ⟨_, by rw [hl, hl2]⟩, q⟩
    | none => cases e1
    | bool y => cases e1
    | int y => cases e1
  | [], v1, e => cases e
  | _ :: _ :: _, v1, e => cases e
theorem cr_abs : CallR X (.builtin "abs") (liftL X.K mg nm (biM .abs)) := by
  intro pins s σ H vs us Q I r h
  obtain ⟨st, j, Z, ds, z, rl, v1, e, q⟩ := biM_out h
  match ds, v1, e with
  | [.int i], v1, e =>
    obtain ⟨v, rfl, vd⟩ := v1.one_inv
    cases vd.int_inv
    cases e
    exact call_abs pins s σ H _ us Q I r ⟨i, rfl, q.same rl (.int _)⟩
theorem cr_int : CallR X (.type "int") (liftL X.K mg nm (biM .int)) := by
  intro pins s σ H vs us Q I r h
  obtain ⟨st, j, Z, ds, z, rl, v1, e, q⟩ := biM_out h
  match ds, v1, e with
  | [.int i], v1, e =>
    obtain ⟨v, rfl, vd⟩ := v1.one_inv
    cases vd.int_inv
    cases e
    exact call_int1 pins s σ H _ us Q I r (.inl ⟨i, rfl, q.same rl (.int _)⟩)
theorem cr_max2 (hc : X.calm = true) : CallR X (.builtin "max") (liftL X.K mg nm (biM .max2)) := by
  intro pins s σ H vs us Q I r h
  obtain ⟨st, j, Z, ds, z, rl, v1, e, q⟩ := biM_out h
  match ds, v1, e with
  | [.int i, .int k], v1, e =>
    obtain ⟨v, u, rfl, vd, ve⟩ := v1.two_inv
    cases vd.int_inv
    cases ve.int_inv
    cases e
    exact call_max2 hc pins s σ H _ us Q I r ⟨i, k, rfl, q.same rl (.int _)⟩
theorem cr_min2 (hc : X.calm = true) : CallR X (.builtin "min") (liftL X.K mg nm (biM .min2)) := by
  intro pins s σ H vs us Q I r h
  obtain ⟨st, j, Z, ds, z, rl, v1, e, q⟩ := biM_out h
  match ds, v1, e with
  | [.int i, .int k], v1, e =>
    obtain ⟨v, u, rfl, vd, ve⟩ := v1.two_inv
    cases vd.int_inv
    cases ve.int_inv
    cases e
    exact call_min2 hc pins s σ H _ us Q I r ⟨i, k, rfl, q.same rl (.int _)⟩
theorem cr_dm : CallR X (.builtin "divmod") (liftL X.K mg nm (biM .divmod)) := by
  intro pins s σ H vs us Q I r h
  obtain ⟨st, j, Z, ds, z, rl, v1, e, q⟩ := biM_out h
  match ds, v1, e with
  | [.int i, .int k], v1, e =>
    obtain ⟨v, u, rfl, vd, ve⟩ := v1.two_inv
    cases vd.int_inv
    cases ve.int_inv
    simp only [biD] at e
    split at e
    · rename_i hz
      cases e
      exact call_dmP pins s σ H _ us Q I r ⟨i, k, rfl, hz, fun p o hp hd => q.tup rl (.cons (.int _) (.cons (.int _) .nil)) hp hd⟩
    · cases e
theorem cr_sumD (hc : X.calm = true) : CallR X (.builtin "sum") (liftL X.K mg nm (biM .sum)) := by
  intro pins s σ H vs us Q I r h
  obtain ⟨st, j, Z, ds, z, rl, v1, e, q⟩ := biM_out h
  match ds, v1, e with
  | [.list xs], v1, e =>
    obtain ⟨v, rfl, vd⟩ := v1.one_inv
    obtain ⟨a, ws, rfl, h1, g⟩ := vd.list_inv
    simp only [biD] at e
    obtain ⟨ns, e1, e2⟩ := Option.map_eq_some_iff.mp e
    subst e2
    rw [intsD_inv e1] at g
    exact cr_sum hc pins s σ H _ us Q I r ⟨a, ns, rfl, .inl (.inl (by rw [← g.ints]; exact h1)), q.same rl (.int _)⟩
theorem cr_allD (hc : X.calm = true) : CallR X (.builtin "all") (liftL X.K mg nm (biM .all)) := by
  intro pins s σ H vs us Q I r h
  obtain ⟨st, j, Z, ds, z, rl, v1, e, q⟩ := biM_out h
  match ds, v1, e with
  | [.list xs], v1, e =>
    obtain ⟨v, rfl, vd⟩ := v1.one_inv
    obtain ⟨a, ws, rfl, h1, g⟩ := vd.list_inv
    simp only [biD] at e
    obtain ⟨ns, e1, e2⟩ := Option.map_eq_some_iff.mp e
    subst e2
    rw [boolsD_inv e1] at g
    exact cr_all hc pins s σ H _ us Q I r ⟨a, ns, rfl, .inl (.inl (by rw [← g.bools]; exact h1)), q.same rl (.bl _)⟩
theorem cr_anyD (hc : X.calm = true) : CallR X (.builtin "any") (liftL X.K mg nm (biM .any)) := by
  intro pins s σ H vs us Q I r h
  obtain ⟨st, j, Z, ds, z, rl, v1, e, q⟩ := biM_out h
  match ds, v1, e with
  | [.list xs], v1, e =>
    obtain ⟨v, rfl, vd⟩ := v1.one_inv
    obtain ⟨a, ws, rfl, h1, g⟩ := vd.list_inv
    simp only [biD] at e
    obtain ⟨ns, e1, e2⟩ := Option.map_eq_some_iff.mp e
    subst e2
    rw [boolsD_inv e1] at g
    exact cr_any hc pins s σ H _ us Q I r ⟨a, ns, rfl, .inl (.inl (by rw [← g.bools]; exact h1)), q.same rl (.bl _)⟩
theorem cr_tuple : CallR X (.type "tuple") (liftL X.K mg nm (biM .tuple)) := by
  intro pins s σ H vs us Q I r h
  obtain ⟨st, j, Z, ds, z, rl, v1, e, q⟩ := biM_out h
  match ds, v1, e with
  | [.list xs], v1, e =>
    obtain ⟨v, rfl, vd⟩ := v1.one_inv
    obtain ⟨a, ws, rfl, h1, g⟩ := vd.list_inv
    cases e
    exact call_tupP pins s σ H _ us Q I r ⟨a, ws, rfl, .inl ⟨.inl (.inl h1), fun p o hp hd => q.tup rl g hp hd⟩⟩
  | [.tuple xs], v1, e =>
    obtain ⟨v, rfl, vd⟩ := v1.one_inv
    obtain ⟨a, ws, rfl, h1, g⟩ := vd.tup_inv
    cases e
    exact call_tupP pins s σ H _ us Q I r ⟨a, ws, rfl, .inr ⟨h1.sqt, q.same rl (.tup h1 g)⟩⟩
end
end Gd
namespace Gd
open PySem PySem.Spec L2
section
variable {X : Cx} {mg : Str → Option Value} {nm : Nat → Str}
theorem lay_nodict : (∀ d : PyData, d.canLay0 = true → d.hasDict = false) ∧ (∀ ds : List PyData, PyData.canLayAll0 ds = true → PyData.hasDictAll ds = false) := by
  have key : ∀ n : Nat, (∀ d : PyData, sizeOf d ≤ n → d.canLay0 = true → d.hasDict = false) ∧ (∀ ds : List PyData, sizeOf ds ≤ n → PyData.canLayAll0 ds = true → PyData.hasDictAll ds = false) := by
    intro n
    induction n with
    | zero =>
      refine ⟨fun d h => ?_, fun ds h => ?_⟩
      · cases d <;> simp at h
      · cases ds <;> simp at h
    | succ n ih =>
      refine ⟨fun d h c => ?_, fun ds h c => ?_⟩
      · cases d with
        | list xs => simp only [PyData.hasDict]; exact ih.2 xs (by simp at h; omega) (by simpa only [PyData.canLay0] using c)
        | tuple xs => simp only [PyData.hasDict]; exact ih.2 xs (by simp at h; omega) (by simpa only [PyData.canLay0] using c)
        | dict kvs => simp [PyData.canLay0] at c
        | _ => simp only [PyData.hasDict]
      · cases ds with
        | nil => simp only [PyData.hasDictAll]
        | cons x xs =>
          have c' := Bool.and_eq_true_iff.mp (by simpa only [PyData.canLayAll0] using c)
          have e1 := ih.1 x (by simp at h; omega) c'.1
          have e2 := ih.2 xs (by simp at h; omega) c'.2
          simp only [PyData.hasDictAll, e1, e2, Bool.or_false]
  exact ⟨fun d c => (key _).1 d (Nat.le_refl _) c, fun ds c => (key _).2 ds (Nat.le_refl _) c⟩
theorem cr_repr (hg : X.A.guards = some []) (hu : X.A.units + 70 < cLine) : CallR X (.builtin "repr") (liftL X.K mg nm (biM .repr)) := by
  intro pins s σ H vs us Q I r h
  obtain ⟨st, j, Z, ds, z, rl, v1, e, q⟩ := biM_out h
  match ds, v1, e with
  | [d], v1, e =>
    obtain ⟨v, rfl, vd⟩ := v1.one_inv
    simp only [biD] at e
    split at e
    · rename_i hz
      cases e
      have q := q.same rl (.str _)
      simp only [Bool.and_eq_true, decide_eq_true_eq] at hz
      obtain ⟨⟨⟨h1, h2⟩, h3⟩, h4⟩ := hz
      rw [SZ_eq] at h2
      obtain ⟨u, rfl, rx⟩ := vals1 r
      have fin : ∀ (x : Str) (t : Nat), x = d.shown → EP X pins σ Q (.str x s.toks) { s with toks := t } := fun x t e => by
        subst e
        exact ⟨.str d.shown, H, I.tok _, ⟨_, rfl⟩, q⟩
      have big : ∀ a : Addr, v = .ref a → wpAny (model X.prog X.w) X.A (call (.builtin "repr") [u]) (EP X pins σ Q) X.xe s := by
        intro a ea
        subst ea
        obtain ⟨as, hr⟩ := Dp.reads I d _ _ (vd.d0.dp h4) rx
        cases rx
        refine repr_of_reads' hr h1 (fun z => ?_) hg (by omega) (fun _ _ e => e) (fun h' u tk hk => ⟨.str d.shown, H, I.kept hk, ⟨_, rfl⟩, q⟩) h2
        rw [lay_nodict.1 d h4] at z
        cases z
      cases vd with
      | non =>
        cases rx
        exact P.repr_of_none (fin _ _ (by rw [PyData.shown.eq_1]))
      | bl b =>
        cases rx
        exact P.repr_of_bool (fin _ _ (by rw [PyData.shown.eq_2]))
      | int i =>
        obtain ⟨t, rfl⟩ := rx
        refine P.repr_of_int (by simpa [PyData.showable] using h1) (fin _ _ (by rw [PyData.shown.eq_3]))
      | str x =>
        obtain ⟨t, rfl⟩ := rx
        exact P.repr_of_str (fin _ _ (by rw [PyData.shown.eq_4])) (by rw [PyData.shown.eq_4] at h2; exact h2)
      | lst e h => exact big _ rfl
      | tup e h => exact big _ rfl
      | dK a c h => exact big _ rfl
      | dT a ne c h => exact big _ rfl
    · cases e
  | [], v1, e => cases e
  | _ :: _ :: _, v1, e => cases e
def tyN : Ty → String
  | .int => "int"
  | .bool => "bool"
  | .str => "str"
  | .tuple => "tuple"
theorem kit_of_dr {K : PySem.W.Frag} (t : Ty) (d : PyData) : PySem.W.kitOne K (.type (tyD d)) (.type (tyN t)) = some (isiD t d) := by
  apply kit_ty
  cases t <;> cases d <;> kernel_rfl
theorem cr_isi (t : Ty) : CallR X (.builtin "isinstance") (fun vs H Q => ∃ x, vs = [x, .ty (tyN t)] ∧ lift1 X.K mg nm (isiM t) x H Q) := by
  intro pins s σ H vs us Q I r h
  obtain ⟨x, rfl, w, st, j, Z, rl, hw, q⟩ := h
  unfold isiM at q
  rw [rwp_bind] at q
  obtain ⟨d, q, vd⟩ := rd_rv rl hw q
  have q : OkW X.K mg nm H j st Z Q (.d (.bool (isiD t d))) st := q
  have q := q.same rl (.bl _)
  obtain ⟨u, w', rfl, rx, rt⟩ := vals2 r
  cases (show w' = Value.type (tyN t) from rt)
  have kk := kit_of_dr (K := X.K) t d
  have fin : ∀ tk, EP X pins σ Q (.bool (isiD t d)) { s with toks := tk } := fun tk => ⟨.bl _, H, I.tok _, rfl, q⟩
  cases vd with
  | non => exact isinst_ok I rx .non kk fin
  | bl b => exact isinst_ok I rx (.bl b) kk fin
  | int i => exact isinst_ok I rx (.int i) kk fin
  | str i => exact isinst_ok I rx (.str i) kk fin
  | lst e h => exact isinst_ok I rx (.lst e) kk fin
  | tup e h =>
    cases rx
    obtain ⟨its, r', ⟨o, ho, hc, n, hd⟩, hz⟩ := I.tuple e.sqt
    exact PySem.W.kia_one PySem.W.kitx_tuple I.kIn ⟨o, ho, hc⟩ kk (fun z => nomatch z) fin
  | dK a c h =>
    cases rx
    obtain ⟨_, _, vs, _, p⟩ := dk_rd I.hok a
    obtain ⟨o, es, ep, h1, h2, _⟩ := p
    exact PySem.W.kia_one PySem.W.kitx_dict I.kIn ⟨o, h1, h2.1⟩ kk (fun z => nomatch z) fin
  | dT a ne c h =>
    cases rx
    obtain ⟨_, _, xs, _, o, es, ep, h1, h2, _⟩ := a.ok I.hok
    exact PySem.W.kia_one PySem.W.kitx_dict I.kIn ⟨o, h1, h2.1⟩ kk (fun z => nomatch z) fin
end
def liftN (K : PySem.W.Frag) (mg : Str → Option Value) (nm : Nat → Str) (f : List W → M (List PyData)) : List V → Hp → VK → Prop := fun vs H Q => ∃ ws st j Z, Rel K H j st Z ∧ WrL K mg nm H j st Z vs ws ∧ RWp (f ws st) (OkN K H j st Z Q)
section
variable {X : Cx} {mg : Str → Option Value} {nm : Nat → Str}
theorem cl_signs (hc : X.calm = true) : CallR X (.type "list") (fun xs H Q => ∃ z : Str, xs = [V.str z] ∧ z.length ≤ SZ ∧ ∀ p, H p = none → Q (.ref p) (upd H p (.lst ((signs z).map V.str)))) := by
  intro pins s σ H xs us Q I r h
  obtain ⟨z, e, hz, q⟩ := h
  subst e
  obtain ⟨u, eu, rx⟩ := vals1 r
  subst eu
  obtain ⟨t, rfl⟩ : ∃ t, u = Value.str z t := rx
  rw [SZ_eq] at hz
  refine call_list_str (I.ok.hd hc) z t (fun h' tk acc' c' hkeep hS hacc => ?_) hz
  refine ⟨.ref s.heap.objs.size, upd H s.heap.objs.size (.lst ((signs z).map V.str)), I.laid hkeep (Nat.le_refl _) (show ObjOk X.prog X.w _ _ _ (.lst ((signs z).map V.str)) from ⟨?_, acc'.toList, c', ?_, ?_⟩), rfl, q _ (I.hok.fresh (Nat.le_refl _))⟩
  · simp only [signs, List.length_map, Array.length_toList]
    exact hz
  · have el : acc'.toList.length = acc'.size := by simp
    refine vals_of_at (by simp only [signs, List.length_map, el, hacc.1, Array.length_toList]) fun j x w h1 h2 => ?_
    obtain ⟨c, y, hky, hi⟩ := hacc.2 j w (by rw [← Array.getElem?_toList]; exact h2)
    have e1 : ((signs z).map V.str)[j]? = some (V.str ⟨#[c]⟩) := by
      simp only [signs, List.getElem?_map, Array.getElem?_toList, hky, Option.map_some]
    rw [e1] at h1
    cases h1
    exact ⟨y, hi⟩
  · rw [Array.toArray_toList]; exact hS
theorem cr_list (hc : X.calm = true) : CallR X (.type "list") (liftN X.K mg nm listM) := by
  intro pins s σ H vs us Q I r h
  obtain ⟨ws, st, j, Z, rl, hw, q⟩ := h
  cases hw with
  | nil => exact q.elim
  | cons hw t =>
    cases t with
    | cons _ _ => exact q.elim
    | nil =>
      simp only [listM] at q
      rw [rwp_bind] at q
      obtain ⟨d, q, vd⟩ := rd_rv rl hw q
      cases d with
      | list xs =>
        obtain ⟨a, ws, rfl, h1, g⟩ := vd.list_inv
        have q : OkN X.K H j st Z Q xs st := q
        exact call_list_of pins s σ H _ us Q I r ⟨a, ws, rfl, .inl (.inl (.inl h1)), fun p hp => q.new rl g hp⟩
      | tuple xs =>
        obtain ⟨a, ws, rfl, h1, g⟩ := vd.tup_inv
        have q : OkN X.K H j st Z Q xs st := q
        exact call_list_of pins s σ H _ us Q I r ⟨a, ws, rfl, .inr h1.sqt, fun p hp => q.new rl g hp⟩
      | none => exact q.elim
      | bool b => exact q.elim
      | int b => exact q.elim
      | str b =>
        by_cases hz : b.length ≤ SZ
        · have q : RWp ((if b.length ≤ SZ then M.pure ((signs b).map .str) else M.bad : M (List PyData)) st) _ := q
          rw [if_pos hz] at q
          have q : OkN X.K H j st Z Q ((signs b).map .str) st := q
          cases vd with
          | str _ => exact cl_signs hc pins s σ H _ us Q I r ⟨b, rfl, hz, fun p hp => q.new rl (DrL.of_strs (signs b)) hp⟩
        · have q : RWp ((if b.length ≤ SZ then M.pure ((signs b).map .str) else M.bad : M (List PyData)) st) _ := q
          rw [if_neg hz] at q
          exact q.elim
      | dict b => exact q.elim
end
end Gd
namespace Gd
open PySem PySem.Spec L2 PyProof.Rows PySem.Froz
section
variable {P : Program} {w : World} {A : Around} {E : Value → Shared → Prop} {s : Shared}
def ledOk (w : World) (t : SetTable) : Prop := w.params.followText "set-order" = true ∨ t.led = true
def TxR (P : Program) (w : World) (h : Heap) (a : Addr) (l : List Str) : Prop := ∃ D : SD, h.get? a = some (sObj "set" D) ∧ TxOk P w D l ∧ Ris D.2.2.place.toList ∧ ledOk w D.2.2
theorem tail_ris {ep : Nat} {es : Array (Int × Value)} {t : SetTable} {b : Bool} (h1 : Ris t.place.toList) (h2 : ledOk w t) : Ris (tailTx ep es t b).2.2.place.toList ∧ ledOk w (tailTx ep es t b).2.2 := by
  unfold tailTx
  split
  · exact ⟨relayAll_ris t es _, h2.imp id fun z => (relayAll_led t es _).trans z⟩
  · exact ⟨h1, h2⟩
theorem add_ris {D : SD} {h : Int} {v : Value} (h1 : Ris D.2.2.place.toList) (h2 : ledOk w D.2.2) : Ris (addTx h v D).2.2.place.toList ∧ ledOk w (addTx h v D).2.2 := by
  obtain ⟨es, ep, t⟩ := D
  have r1 := layNew_ris t es h v h1
  have r2 : ledOk w (layNew t es h v).2.1 := h2.imp id fun z => (layNew_led t es h v).trans z
  show Ris (tailTx _ _ _ _).2.2.place.toList ∧ ledOk w (tailTx _ _ _ _).2.2
  refine tail_ris ?_ ?_
  · split
    · exact r1
    · exact r1
  · split
    · exact r2
    · exact r2
theorem add_there {a : Addr} {D : SD} {l : List Str} {k : Str} {u : Tok} {Q : Bool → Shared → Prop} (ho : s.heap.get? a = some (sObj "set" D)) (F : TxOk P w D l) (hk : k ∈ l) (hb : l.length < scanBound)
    (h : Q false s) : wpAny (model P w) A (setAddHashed a (.str k u) (hashStr w k)) Q E s := by
  obtain ⟨es, ep, t⟩ := D
  have sz1 : es.size = l.length := F.sz
  have iz : (strKind P w).is k (.str k u) = true := is_str k u
  unfold setAddHashed setAddHashedIn
  refine wpAny_holding (wpAny_bind (wpAny_setState_of ho (rfl : (sObj "set" (es, ep, t)).data = .set es ep t) F.fit ?_))
  dsimp only
  rw [byScan_of rfl (by rw [sz1]; exact hb) F.el]
  simp only [↓reduceIte]
  unfold setAddByScan
  refine wpAny_bind (wpAny_bind (wpAny_rule (wpAny_bind (wpAny_setScan_of (knd := strKind P w) (k := k) iz ho rfl F.fit F.el ?_))))
  cases hr : List.findIdx? (fun e => (strKind P w).is k e.2) es.toList with
  | none =>
    obtain ⟨e, he, q⟩ := (F.mem k).mp hk
    have z := List.findIdx?_eq_none_iff.mp hr e he
    rw [q] at z
    cases z
  | some i =>
    dsimp only
    refine wpAny_pure ?_
    dsimp only
    exact wpAny_pure h
def addL (l : List Str) (k : Str) : List Str := if k ∈ l then l else k :: l
theorem setAdd_tx {a : Addr} {l : List Str} {k : Str} {u : Tok} {Q : Bool → Shared → Prop} (R : TxR P w s.heap a l) (hb : l.length + 1 < scanBound)
    (h : ∀ b h', Heap.SameBut a s.heap h' → TxR P w h' a (addL l k) → Q b { s with heap := h', toks := s.toks + 1 }) : wpAny (model P w) A (setAdd a (.str k u)) Q E s := by
  obtain ⟨D, ho, F, r1, r2⟩ := R
  unfold setAdd
  refine wpAny_holding (wpAny_bind ((strKind P w).pyHash (is_str k u) ?_))
  by_cases hk : k ∈ l
  · refine add_there (s := { s with toks := s.toks + 1 }) ho F hk (by omega) (h false s.heap (Heap.SameBut.refl a s.heap) ⟨D, ho, ?_, r1, r2⟩)
    rw [addL, if_pos hk]
    exact F
  · have q := add_ris (w := w) (h := hashStr w k) (v := .str k u) r1 r2
    refine add_x (s := { s with toks := s.toks + 1 }) ho F hk hb (h true _ (Heap.SameBut.update ..) ⟨addTx (hashStr w k) (.str k u) D, get_upd _ ho rfl, ?_, q.1, q.2⟩)
    rw [addL, if_neg hk]
    exact add_ok u F
theorem set_loop {it : Addr} {fp wr : List Addr} {G : Array GenState → Array GenState → Prop} {n : Nat} {Pv : Nat → Value → Prop} {St : Nat → Shared → Prop} {R : Result → Shared → Prop}
    (W : WalksS P w A.in1 it fp wr G n Pv St) (T : Addr) (hT : T ∉ fp) (J : Nat → Heap → Prop) (hJ : ∀ i h h', J i h → (∀ o, h.get? T = some o → h'.get? T = some o) → J i h')
    (hs : ∀ i v (s : Shared) (E : Value → Shared → Prop) (Q : Bool → Shared → Prop), i < n → Pv i v → J i s.heap → (∀ b h' tk, Heap.SameBut T s.heap h' → J (i + 1) h' → s.toks ≤ tk → Q b { s with heap := h', toks := tk }) → wpAny (model P w) A.in1 (setAdd T v) Q E s) :
    ∀ (k i : Nat) (s : Shared), n - i = k → i ≤ n → St i s → J i s.heap → (∀ s', Moved (T :: wr) G s s' → J n s'.heap → R (.ok (.ret .none)) s') →
      codeAny (model P w) A (.builtin "set.update.loop" ⟨[.ref T, .ref it], []⟩) R s := by
  have nT : T ∉ wr := fun h => hT (W.sub _ h)
  have inc : ∀ b ∈ wr, b ∈ T :: wr := fun b hb => List.mem_cons_of_mem _ hb
  intro k
  induction k with
  | zero =>
    intro i s e1 e2 st j fin
    obtain rfl : i = n := by omega
    refine codeAny_builtin PyProof.Rows.F.entry_set_update_loop (by
      rw [Around.under_plainId PyProof.Rows.F.plain_set_update_loop _]
      refine wpAny_bind (W.done s _ _ st fun s' m => ?_)
      exact wpAny_pure (fin s' (m.mono inc) (hJ _ _ _ j fun o e => m.heap T o nT e)))
  | succ k ih =>
    intro i s e1 e2 st j fin
    refine codeAny_builtin PyProof.Rows.F.entry_set_update_loop (by
      rw [Around.under_plainId PyProof.Rows.F.plain_set_update_loop _]
      refine wpAny_bind (W.item i s _ _ (by omega) st fun v s' hP st' m => ?_)
      have j' := hJ _ _ _ j fun o e => m.heap T o nT e
      refine wpAny_bind (wpAny_holding (hs i v s' _ _ (by omega) hP j' fun b h' tk sb j2 le => ?_))
      refine wpAny_pure ⟨plainId_quiet PyProof.Rows.F.plain_set_update_loop _, ih (i + 1) _ (by omega) (by omega) (W.frame _ s' _ _ st' le fun b hb o e => ?_) j2 fun s'' m2 j3 => ?_⟩
      · exact (sb.2 b (fun h : b = T => hT (h ▸ hb))).trans e
      · refine fin s'' (Moved.trans W.gtrans ((m.mono inc).then_heap le fun b o hb e => ?_) m2) j3
        exact (sb.2 b (fun h : b = T => hb (h ▸ List.mem_cons_self))).trans e)
def freshSet (w : World) : Obj := { cls := .type "set", dict := none, data := .set #[] 0 (.fresh 0 0 (!w.params.followText "set-order")) }
set_option maxHeartbeats 3200000 in
theorem set_call {l : Addr} {items : Array Value} {Q : Value → Shared → Prop} (J : Nat → Heap → Prop) (hh : A.handled = none) (hl : s.heap.IsList l items)
    (j0 : ∀ h : Heap, h.get? s.heap.objs.size = some (freshSet w) → J 0 h) (hJ : ∀ i h h', J i h → (∀ o, h.get? s.heap.objs.size = some o → h'.get? s.heap.objs.size = some o) → J i h')
    (hs : ∀ i v (s2 : Shared) (E : Value → Shared → Prop) (Q : Bool → Shared → Prop), i < items.size → items[i]? = some v → J i s2.heap →
      (∀ b h' tk, Heap.SameBut s.heap.objs.size s2.heap h' → J (i + 1) h' → s2.toks ≤ tk → Q b { s2 with heap := h', toks := tk }) → wpAny (model P w) A.in1.in1.in1 (setAdd s.heap.objs.size v) Q E s2)
    (h : ∀ (h' : Heap) (tk : Nat), J items.size h' → (∀ b o, s.heap.get? b = some o → h'.get? b = some o) → Q (.ref s.heap.objs.size) { s with heap := h', toks := tk }) :
    wpAny (model P w) A (call (.type "set") [.ref l]) Q E s := by
  obtain ⟨c, tl, hmro⟩ := PySem.F.called_set.mro
  have a1 := PySem.F.called_set.made; have a2 := PySem.F.called_set.sub
  have a3 := PySem.F.called_set.notType; have a4 := PySem.F.called_set.canCreate; have a5 := PySem.F.typeCall_set_1 (.ref l)
  refine wpAny_call (codeAny_of_tree (by
    show wpAny _ _ (callAny (.type "set") _) _ _ _
    refine wpAny_pure ⟨Code.quiet_builtin _ (by decide +kernel), codeAny_builtin PySem.F.entry_type_call ?_⟩; rw [Around.under_plain (weight_type_call_type "set" [.ref l] []) rfl]
    repeat (any_goals (first | assumption | wp_step))
    refine codeAny_mono (code_set_led1 (.ref l) (E := E) (Q₁ := fun obj s1 => obj = .ref s.heap.objs.size ∧ s1 = { s with heap := s.heap.push (freshSet w) }) ⟨rfl, rfl⟩) fun r s1 hr => ?_
    cases r with
    | error e => exact hr
    | ok fl =>
      cases fl with
      | next => exact hr.elim
      | brk => exact hr.elim
      | cont => exact hr.elim
      | ret obj =>
        obtain ⟨rfl, rfl⟩ := hr
        have hS : (s.heap.push (freshSet w)).get? s.heap.objs.size = some (freshSet w) := Heap.get?_push_size _ rfl
        have hT : Shared.TypeIs { s with heap := s.heap.push (freshSet w) } (.ref s.heap.objs.size) "set" := ⟨_, hS, rfl⟩
        have b1 := PySem.F.called_set.init.lookup; have b2 := PySem.F.called_set.init.bind (.ref s.heap.objs.size)
        repeat (any_goals (first | assumption | wp_step))
        refine codeAny_mono (codeAny_call_builtin (R := wants (fun r s2 => r = .none ∧ ∃ h' tk, s2 = { s with heap := h', toks := tk } ∧ J items.size h' ∧ (∀ b o, s.heap.get? b = some o → h'.get? b = some o)) E) PySem.F.called_set.init.plain PySem.F.entry_set_init (check_set_init_1 hT ?_)) fun r2 s2 hr2 => ?_
        · obtain ⟨⟨oc, od, odat, osl⟩, hol, hcl, nl, hdl⟩ := hl
          simp only at hcl hdl
          subst hcl; subst hdl
          have hol' : (s.heap.push (freshSet w)).get? l = some { cls := .type "list", dict := od, data := .seq items nl, slots := osl } := Heap.get?_push_of_some _ hol
          have c1 := PySem.F.sub_list_set; have c2 := PySem.F.sub_list_frozenset; have c3 : (Value.type "list" == Value.type "dict") = false := by decide
          have hl1 : (s.heap.push (freshSet w)).IsList l items := ⟨_, hol', rfl, nl, rfl⟩
          unfold Builtin.«set.__init__» noKeywords Builtin.Frozenset.updateFrom
          generalize hPI : pyIter = PI
          wp_walk
          subst hPI
          refine wpAny_pyIter_list hl1 (wpAny_bind (wpAny_runValue ?_))
          have hlS : l < s.heap.objs.size := Heap.lt_size hol
          have hz1 : (s.heap.push (freshSet w)).objs.size = s.heap.objs.size + 1 := Heap.size_push ..
          refine set_loop ((Walks.list (by simp [hh] : A.in1.in1.in1.handled = none) _ l (fun z => by rw [z, hz1] at hlS; exact Nat.not_succ_lt_self hlS) items).toS) s.heap.objs.size ?_ J hJ hs (items.size - 0) 0 _ (by omega) (Nat.zero_le _)
            ⟨⟨_, Heap.get?_push_size _ rfl, rfl, rfl⟩, (hl1.push _)⟩ (j0 _ (Heap.get?_push_of_some _ hS)) fun s' m j => ?_
          · rw [hz1]
            simp only [List.mem_cons, List.not_mem_nil, or_false, not_or]
            exact ⟨Nat.ne_of_lt (Nat.lt_succ_self _), fun z => by rw [← z] at hlS; exact Nat.lt_irrefl _ hlS⟩
          · obtain ⟨h', g2, d', tk', os'⟩ := s'
            obtain rfl : g2 = s.gens := m.gens
            obtain rfl : d' = s.drawn := m.drawn
            obtain rfl : os' = s.os := m.os
            refine wpAny_pure (show wpAny _ _ (ret Value.none) _ _ _ from wpAny_pure ⟨rfl, h', tk', rfl, j, fun b o e => ?_⟩)
            have hb := Heap.lt_size e
            refine m.heap b o ?_ (Heap.get?_push_of_some _ (Heap.get?_push_of_some _ e))
            simp only [List.mem_cons, List.not_mem_nil, or_false, not_or]
            exact ⟨Nat.ne_of_lt hb, fun z => by rw [z, hz1] at hb; exact Nat.not_succ_lt_self hb⟩
        · cases r2 with
          | error e => exact hr2
          | ok fl2 =>
            cases fl2 with
            | next => exact hr2.elim
            | brk => exact hr2.elim
            | cont => exact hr2.elim
            | ret r =>
              obtain ⟨rfl, h', tk, rfl, j, hk'⟩ := hr2
              repeat (any_goals (first | assumption | wp_step))
              exact h _ _ j hk'))
end
end Gd
namespace Gd
open PySem PySem.Spec L2 PyProof.Rows PySem.W
section
variable {P : Program} {w : World} {A : Around} {E : Value → Shared → Prop} {s : Shared}
theorem collect_tup {l : Addr} {vs : List Value} {Q : List Value → Shared → Prop} (hl : IsTup s.heap l vs.toArray) (hz : vs.length ≤ sizeLine)
    (h : ∀ h', (∀ b o, s.heap.get? b = some o → h'.get? b = some o) → s.heap.objs.size ≤ h'.objs.size → Q vs { s with heap := h' }) : wpAny (model P w) A (collect (.ref l)) Q E s := by
  obtain ⟨o, ho, hc, n, hd⟩ := id hl
  unfold collect
  refine wpAny_bind (wpAny_runValue (codeAny_builtin entry_proto_collect' ?_)); show wpAny _ _ (do again (.builtin "list.__iadd__" ⟨[← newList [], .ref l], []⟩)) _ _ s
  refine wpAny_bind (wpAny_newList (wpAny_pure ⟨Code.quiet_builtin _ (by decide +kernel), codeAny_builtin entry_list_iadd' ?_⟩)); show wpAny _ _ (Builtin.List.listExtendWith (.ref s.heap.objs.size) (.ref l) (.ref s.heap.objs.size)) _ _ { s with heap := s.heap.push (seqObj "list" #[] 0) }
  unfold Builtin.List.listExtendWith
  have o1 : (s.heap.push (seqObj "list" #[] 0)).get? l = some o := Heap.get?_push_of_some _ ho
  refine wpAny_bind (wpAny_typeOf (T := "tuple") ⟨o, o1, hc⟩ ?_)
  rw [if_pos (by rw [show (Value.type "tuple" == Value.type "tuple") = true from rfl, Bool.or_true])]
  refine wpAny_bind (listItems_at o1 hd ?_)
  refine wpAny_bind (listItems_at (xs := #[]) (n := 0) (Heap.get?_push_size _ rfl) rfl ?_); rw [if_neg (by simp)]
  refine wpAny_bind (listUpdate_at (xs := #[]) (n := 0) (Heap.get?_push_size _ rfl) rfl ?_ (Nat.zero_le _) (by show (#[] ++ vs.toArray).size ≤ sizeLine + 1; simp only [Array.size_append, List.size_toArray, List.length_nil]; omega)); refine wpAny_pure ?_
  refine wpAny_bind (wpAny_load (get?_update_seq (Heap.get?_push_size _ rfl) _) ?_)
  have e : ((#[] : Array Value) ++ vs.toArray).toList = vs := by simp
  show wpAny _ _ (pure ((#[] : Array Value) ++ vs.toArray).toList) Q E _; rw [e]
  refine wpAny_pure (h _ (fun b u eb => ?_) ?_)
  · exact (Heap.get?_update_other _ _ (Nat.ne_of_gt (Heap.lt_size eb))).trans (Heap.get?_push_of_some _ eb)
  · rw [Heap.size_update, size_push']
    exact Nat.le_succ _
structure Col (s s1 : Shared) (R : Value → PyData → Prop) (vs : List Value) (bs : List PyData) : Prop where
  keep : ∀ b o, s.heap.get? b = some o → s1.heap.get? b = some o
  size : s.heap.objs.size ≤ s1.heap.objs.size
  gens : s1.gens = s.gens
  os : s1.os = s.os
  each : EachIs R vs bs
  reads : EachIs (fun v b => ∃ as, Reads s1.heap v b as) vs bs
  alike : AllAlike bs
  srt : Sortable bs
  len : bs.length ≤ sizeLine
  dep : ∀ b ∈ bs, b.depth ≤ 64
theorem each_id {β : Type} {R : Value → β → Prop} : ∀ {vs : List Value} {bs : List β}, EachIs R vs bs → EachIs (fun v b => R v (id b)) vs bs := fun h => h
def preH (h : Heap) (vs : List Value) : Heap := sortingHeap (h.push (seqObj "list" vs.toArray 0)) h.objs.size vs
noncomputable def srtH (h : Heap) (vs : List Value) (bs : List PyData) (rev : Bool) : Heap := sortedHeap (h.push (seqObj "list" vs.toArray 0)) h.objs.size vs (sortVals (dataKind (preH h vs) (bs.map id)) rev vs vs).toArray
theorem sorted_gen (Cb : List PyData → Prop) {v : Value} {kw : List (Str × Value)} {rev : Bool} {R : Value → PyData → Prop} {Q : Value → Shared → Prop} (hkw : (kw = [] ∧ rev = false) ∨ kw = [(Str.ofString "reverse", .bool rev)])
    (hcol : ∀ (E : Value → Shared → Prop) (Q : List Value → Shared → Prop), (∀ s1 vs bs, Col s s1 R vs bs → Cb bs → Q vs s1) → wpAny (model P w) A.in1 (collect v) Q E s) (hu : A.units + 70 < cLine)
    (h : ∀ s1 vs bs, Col s s1 R vs bs → Cb bs → ∀ (out : List Value) s2 p c, out.length = bs.length → EachIs R out (bs.mergeSort (dataLe rev id)) → (∀ b o, s.heap.get? b = some o → s2.heap.get? b = some o) → s.heap.objs.size ≤ p → s2.gens = s.gens → s2.os = s.os →
      s2.heap.get? p = some (seqObj "list" out.toArray c) → Q (.ref p) s2) : wpAny (model P w) A (call (.builtin "sorted") [v] kw) Q E s := by
  have ha1 : argsOk "sorted" ⟨[v], kw⟩ := by
    rcases hkw with ⟨e, _⟩ | e
    · rw [e]; exact args_sorted1 _
    · rw [e]; exact args_sorted_rev _ _
  have ha2 : ∀ x : Addr, argsOk "list.sort" ⟨[.ref x], kw⟩ := fun x => by
    rcases hkw with ⟨e, _⟩ | e
    · rw [e]; exact args_list_sort _
    · rw [e]; exact args_list_sort_rev _ _
  refine call_function_entry_kw kind_sorted plain_sorted entry_sorted ha1 ?_
  unfold Builtin.«sorted»
  refine wpAny_bind (m := checkCount "sorted" 1 1 _) (wpAny_pure ?_)
  refine wpAny_bind (hcol _ _ fun s1 vs bs C cb => ?_)
  have hlv : vs.length ≤ sizeLine := by rw [C.each.length]; exact C.len
  refine wpAny_bind (wpAny_newList ?_ hlv)
  have hoL : (s1.heap.push (seqObj "list" vs.toArray 0)).get? s1.heap.objs.size = some (seqObj "list" vs.toArray 0) := Heap.get?_push_size _ rfl
  have er : EachIs (fun v b => ∃ as, Reads (preH s1.heap vs) v (id b) as) vs bs :=
    C.reads.mono fun _ _ ⟨as, r⟩ => ⟨as, PyProof.Rows.Reads.keeps (fun b o e => sortingHeap_old (Nat.ne_of_lt (Heap.lt_size e)) (Heap.get?_push_of_some _ e)) r⟩
  have hal : AllAlike (bs.map id) := by rw [List.map_id]; exact C.alike
  have hk : Sortable (bs.map id) := by rw [List.map_id]; exact C.srt
  have S : SortsAt P w A.in1.in1 { s1 with heap := preH s1.heap vs } (dataKind (preH s1.heap vs) (bs.map id)) vs :=
    SortsAt.data (s := { s1 with heap := preH s1.heap vs }) (each_map (R := fun v d => ∃ as, Reads (preH s1.heap vs) v d as) id er) hal hk fun d hd => by
      rw [List.map_id] at hd
      have := C.dep d hd
      show A.units + 1 + 1 + d.depth < cLine
      omega
  have fin : ∀ f s', f = Fin.done (Flow.ret Value.none) ∧ s' = { s1 with heap := srtH s1.heap vs bs rev } → Q (.ref s1.heap.objs.size) s' := by
    rintro f s' ⟨rfl, rfl⟩
    obtain ⟨c, hc⟩ := sortedHeap_at (vs := vs) (out := (sortVals (dataKind (preH s1.heap vs) (bs.map id)) rev vs vs).toArray) hoL
    refine h s1 vs bs C cb _ _ s1.heap.objs.size c ?_ (sortVals_data rev C.each er hal) (fun b u e => ?_) C.size C.gens C.os hc
    · rw [sortVals_length rev rfl]; exact C.each.length
    · have q := C.keep b u e
      have hlt := Heap.lt_size q
      show (sortedHeap (s1.heap.push (seqObj "list" vs.toArray 0)) s1.heap.objs.size vs _).get? b = some u
      rw [sortedHeap_old (Nat.ne_of_lt hlt) (by rw [size_push']; exact Nat.lt_succ_of_lt hlt)]
      exact Heap.get?_push_of_some _ q
  refine wpAny_bind (wpAny_holding (wpAny_call_entry_kw slot_list_sort ⟨_, hoL, rfl⟩ entry_list_sort ?_ (ha2 _)))
  rcases hkw with ⟨rfl, rfl⟩ | rfl
  · refine wpAny_mono (list_sort_vals (s := { s1 with heap := s1.heap.push (seqObj "list" vs.toArray 0) }) (P := fun f s' => f = Fin.done (Flow.ret Value.none) ∧ s' = { s1 with heap := srtH s1.heap vs bs false }) hoL S hlv ⟨rfl, rfl⟩) (fun f s' hf => ?_) fun _ _ e => e
    have q := fin f s' hf
    obtain ⟨rfl, _⟩ := hf
    exact ⟨_, rfl, wpAny_pure ⟨_, rfl, q⟩⟩
  · refine wpAny_mono (list_sort_rev_vals (s := { s1 with heap := s1.heap.push (seqObj "list" vs.toArray 0) }) (P := fun f s' => f = Fin.done (Flow.ret Value.none) ∧ s' = { s1 with heap := srtH s1.heap vs bs rev }) hoL S hlv ⟨rfl, rfl⟩) (fun f s' hf => ?_) fun _ _ e => e
    have q := fin f s' hf
    obtain ⟨rfl, _⟩ := hf
    exact ⟨_, rfl, wpAny_pure ⟨_, rfl, q⟩⟩
end
end Gd
namespace Gd
open PySem PySem.Spec L2 PyProof.Rows PySem.W
theorem perm_of_nodup {α : Type} [BEq α] [LawfulBEq α] : ∀ {l k : List α}, l.Nodup → (∀ x ∈ l, x ∈ k) → k.length = l.length → k.Perm l
  | [], k, _, _, e => by
    rw [List.length_nil, List.length_eq_zero_iff] at e
    rw [e]
  | x :: l, k, n, h, e => by
    have hx := h x List.mem_cons_self
    have p := List.perm_cons_erase hx
    obtain ⟨n1, n2⟩ := List.nodup_cons.mp n
    have q : (k.erase x).Perm l := perm_of_nodup n2 (fun y hy => (List.mem_erase_of_ne (fun (z : y = x) => n1 (by rw [← z]; exact hy))).mpr (h y (List.mem_cons_of_mem _ hy))) (by
      have := p.length_eq
      simp only [List.length_cons] at this e
      omega)
    exact p.trans (q.cons x)
theorem str_eq_of_list {x y : Str} (h : x.cps.toList = y.cps.toList) : x = y := by
  obtain ⟨a⟩ := x
  obtain ⟨b⟩ := y
  exact congrArg Str.mk (Array.toList_inj.mp h)
theorem sort_strs_eq {l k : List Str} (h : l.Perm k) : sortD false (l.map .str) = sortD false (k.map .str) := by
  unfold sortD
  have e : ∀ m : List Str, (m.map PyData.str).mergeSort (dataLe false id) = (m.mergeSort fun a b => decide (a.cps.toList ≤ b.cps.toList)).map .str := fun m => by
    rw [List.map_mergeSort (s := dataLe false id)]
    intro a _ b _
    exact (congrFun (congrFun (dataLe_str (β := Str) id) a) b).symm
  rw [e, e]
  congr 1
  have tr : ∀ a b c : Str, decide (a.cps.toList ≤ b.cps.toList) = true → decide (b.cps.toList ≤ c.cps.toList) = true → decide (a.cps.toList ≤ c.cps.toList) = true := fun a b c h1 h2 => by
    simp only [decide_eq_true_eq] at *
    exact List.le_trans h1 h2
  have tot : ∀ a b : Str, (decide (a.cps.toList ≤ b.cps.toList) || decide (b.cps.toList ≤ a.cps.toList)) = true := fun a b => by
    simp only [Bool.or_eq_true, decide_eq_true_eq]
    exact List.le_total _ _
  refine List.Perm.eq_of_pairwise (fun a b _ _ h1 h2 => ?_) (List.pairwise_mergeSort tr tot l) (List.pairwise_mergeSort tr tot k) (((List.mergeSort_perm l _).trans h).trans (List.mergeSort_perm k _).symm)
  simp only [decide_eq_true_eq] at h1 h2
  exact str_eq_of_list (List.le_antisymm h1 h2)
theorem sort_ints_eq {l k : List Int} (h : l.Perm k) : sortD false (l.map .int) = sortD false (k.map .int) := by
  unfold sortD
  have e : ∀ m : List Int, (m.map PyData.int).mergeSort (dataLe false id) = (m.mergeSort fun a b => decide (a ≤ b)).map .int := fun m => by
    rw [List.map_mergeSort (s := dataLe false id)]
    intro a _ b _
    exact (congrFun (congrFun (dataLe_int (β := Int) id) a) b).symm
  rw [e, e]
  congr 1
  have tr : ∀ a b c : Int, decide (a ≤ b) = true → decide (b ≤ c) = true → decide (a ≤ c) = true := fun a b c h1 h2 => by
    simp only [decide_eq_true_eq] at *
    omega
  have tot : ∀ a b : Int, (decide (a ≤ b) || decide (b ≤ a)) = true := fun a b => by
    simp only [Bool.or_eq_true, decide_eq_true_eq]
    omega
  refine List.Perm.eq_of_pairwise (fun a b _ _ h1 h2 => ?_) (List.pairwise_mergeSort tr tot l) (List.pairwise_mergeSort tr tot k) (((List.mergeSort_perm l _).trans h).trans (List.mergeSort_perm k _).symm)
  simp only [decide_eq_true_eq] at h1 h2
  omega
theorem any_strs (x : Str) : ∀ k : List Str, ((k.map PyData.str).any (PyData.eqv (.str x))) = decide (x ∈ k)
  | [] => rfl
  | y :: k => by
    rw [List.map_cons, List.any_cons, any_strs x k]
    have e : PyData.eqv (.str x) (.str y) = decide (x = y) := by
      rw [Bool.eq_iff_iff, decide_eq_true_eq]
      simp only [PyData.eqv, beq_iff_eq]
    rw [e, Bool.eq_iff_iff]
    simp only [Bool.or_eq_true, decide_eq_true_eq, List.mem_cons]
theorem any_ints (x : Int) : ∀ k : List Int, ((k.map PyData.int).any (PyData.eqv (.int x))) = decide (x ∈ k)
  | [] => rfl
  | y :: k => by
    rw [List.map_cons, List.any_cons, any_ints x k]
    have e : PyData.eqv (.int x) (.int y) = decide (x = y) := by
      rw [Bool.eq_iff_iff, decide_eq_true_eq]
      simp only [PyData.eqv, beq_iff_eq]
    rw [e, Bool.eq_iff_iff]
    simp only [Bool.or_eq_true, decide_eq_true_eq, List.mem_cons]
theorem once_strs : ∀ l : List Str, ∃ k : List Str, onceD (l.map .str) = k.map .str ∧ k.Nodup ∧ ∀ x, x ∈ k ↔ x ∈ l
  | [] => ⟨[], rfl, List.nodup_nil, fun _ => Iff.rfl⟩
  | x :: l => by
    obtain ⟨k, e, n, m⟩ := once_strs l
    unfold onceD
    rw [List.map_cons]
    dsimp only
    rw [e, any_strs]
    by_cases h : x ∈ k
    · rw [decide_eq_true h, if_pos rfl]
      refine ⟨k, rfl, n, fun y => ?_⟩
      rw [m, List.mem_cons]
      refine ⟨.inr, fun z => z.elim (fun z => ?_) id⟩
      rw [z]
      exact (m x).mp h
    · rw [decide_eq_false h, if_neg (by decide)]
      refine ⟨x :: k, rfl, List.nodup_cons.mpr ⟨h, n⟩, fun y => ?_⟩
      rw [List.mem_cons, List.mem_cons, m]
theorem once_ints : ∀ l : List Int, ∃ k : List Int, onceD (l.map .int) = k.map .int ∧ k.Nodup ∧ ∀ x, x ∈ k ↔ x ∈ l
  | [] => ⟨[], rfl, List.nodup_nil, fun _ => Iff.rfl⟩
  | x :: l => by
    obtain ⟨k, e, n, m⟩ := once_ints l
    unfold onceD
    rw [List.map_cons]
    dsimp only
    rw [e, any_ints]
    by_cases h : x ∈ k
    · rw [decide_eq_true h, if_pos rfl]
      refine ⟨k, rfl, n, fun y => ?_⟩
      rw [m, List.mem_cons]
      refine ⟨.inr, fun z => z.elim (fun z => ?_) id⟩
      rw [z]
      exact (m x).mp h
    · rw [decide_eq_false h, if_neg (by decide)]
      refine ⟨x :: k, rfl, List.nodup_cons.mpr ⟨h, n⟩, fun y => ?_⟩
      rw [List.mem_cons, List.mem_cons, m]
theorem nodup_perm {α : Type} [BEq α] [LawfulBEq α] {l k : List α} (n1 : l.Nodup) (n2 : k.Nodup) (h : ∀ x, x ∈ l ↔ x ∈ k) : l.Perm k := by
  have le : ∀ {l k : List α}, l.Nodup → (∀ x ∈ l, x ∈ k) → l.length ≤ k.length := by
    intro l
    induction l with
    | nil => intro k _ _; exact Nat.zero_le _
    | cons x l ih =>
      intro k n h
      obtain ⟨a, b⟩ := List.nodup_cons.mp n
      have p := List.perm_cons_erase (h x List.mem_cons_self)
      have := ih (k := k.erase x) b fun y hy => (List.mem_erase_of_ne (fun (z : y = x) => a (by rw [← z]; exact hy))).mpr (h y (List.mem_cons_of_mem _ hy))
      have e := p.length_eq
      simp only [List.length_cons] at e ⊢
      omega
  exact perm_of_nodup n2 (fun x hx => (h x).mpr hx) (Nat.le_antisymm (le n1 fun x hx => (h x).mp hx) (le n2 fun x hx => (h x).mpr hx))
def flatR (v : Value) : PyData → Prop
  | .str x => ∃ t, v = .str x t
  | .int i => ∃ t, v = .int i t
  | _ => False
theorem flat_vals {K : PySem.W.Frag} {H : Hp} {L : Addr → Prop} : ∀ {out : List Value} {bs : List PyData}, EachIs flatR out bs → ∃ xs, Vals xs out ∧ DrL K H L xs bs
  | _, _, .nil => ⟨[], .nil, .nil⟩
  | _, _, .cons (b := b) h t => by
    obtain ⟨xs, r, d⟩ := flat_vals t
    cases b with
    | str x => obtain ⟨t, rfl⟩ := h; exact ⟨.str x :: xs, .cons ⟨t, rfl⟩ r, .cons (.str x) d⟩
    | int x => obtain ⟨t, rfl⟩ := h; exact ⟨.int x :: xs, .cons ⟨t, rfl⟩ r, .cons (.int x) d⟩
    | none => exact h.elim
    | bool x => exact h.elim
    | list x => exact h.elim
    | tuple x => exact h.elim
    | dict x => exact h.elim
theorem flat_reads {h : Heap} : ∀ {out : List Value} {bs : List PyData}, EachIs flatR out bs → EachIs (fun v b => ∃ as, Reads h v b as) out bs
  | _, _, .nil => .nil
  | _, _, .cons (b := b) h t => by
    refine .cons ?_ (flat_reads t)
    cases b with
    | str x => obtain ⟨t, rfl⟩ := h; exact ⟨_, .str _ _⟩
    | int x => obtain ⟨t, rfl⟩ := h; exact ⟨_, .int _ _⟩
    | none => exact h.elim
    | bool x => exact h.elim
    | list x => exact h.elim
    | tuple x => exact h.elim
    | dict x => exact h.elim
end Gd
namespace Gd
open PySem PySem.Spec L2 PyProof.Rows PySem.W PySem.Froz
def strOf : Value → Str
  | .str k _ => k
  | _ => Str.empty
def intOf : Value → Int
  | .int k _ => k
  | _ => 0
theorem each_strs : ∀ {vs : List Value}, (∀ v ∈ vs, ∃ k t, v = .str k t) → EachIs flatR vs ((vs.map strOf).map .str)
  | [], _ => .nil
  | v :: vs, h => by
    obtain ⟨k, t, rfl⟩ := h v List.mem_cons_self
    exact .cons ⟨t, rfl⟩ (each_strs fun u hu => h u (List.mem_cons_of_mem _ hu))
theorem each_ints : ∀ {vs : List Value}, (∀ v ∈ vs, ∃ k t, v = .int k t) → EachIs flatR vs ((vs.map intOf).map .int)
  | [], _ => .nil
  | v :: vs, h => by
    obtain ⟨k, t, rfl⟩ := h v List.mem_cons_self
    exact .cons ⟨t, rfl⟩ (each_ints fun u hu => h u (List.mem_cons_of_mem _ hu))
theorem alike_strs (l : List Str) : AllAlike (l.map .str) := AllAlike.of fun _ _ => by simp [alike]
theorem alike_intsD (l : List Int) : AllAlike (l.map .int) := AllAlike.of fun _ _ => by simp [alike]
theorem srt_strs (l : List Str) : Sortable (l.map .str) := Sortable.others fun _ => ⟨fun z => (by cases z), fun _ z => (by cases z)⟩
theorem srt_ints (l : List Int) : Sortable (l.map .int) := Sortable.others fun _ => ⟨fun z => (by cases z), fun _ z => (by cases z)⟩
section
variable {P : Program} {w : World} {A : Around} {E : Value → Shared → Prop} {s : Shared}
theorem collect_txs {a : Addr} {l : List Str} {Q : List Value → Shared → Prop} (hh : A.handled = none) (R : TxR P w s.heap a l) (n : l.Nodup) (hb : l.length < scanBound)
    (h : ∀ s1 vs bs, Col s s1 flatR vs bs → bs.Perm (l.map .str) → Q vs s1) : wpAny (model P w) A (collect (.ref a)) Q E s := by
  obtain ⟨⟨es, ep, t⟩, ho, F, r1, r2⟩ := R
  have sz : es.size = l.length := F.sz
  refine collect_set hh ⟨_, ho, rfl, rfl⟩ F.fit (by rw [sz]; exact hb) r1 r2 fun s1 vs k z g o p => ?_
  have sh : ∀ e ∈ es.toList, ∃ k u, e.2 = .str k u := fun e he => by
    obtain ⟨⟨k, hk, _⟩, _⟩ := F.el e he
    obtain ⟨u, hu⟩ := Value.isStrOf_shape (x := k) (v := e.2) hk
    exact ⟨k, u, hu⟩
  have sv : ∀ v ∈ vs, ∃ k u, v = .str k u := fun v hv => by
    obtain ⟨e, he, q⟩ := List.mem_map.mp (p.mem_iff.mp hv)
    rw [← q]
    exact sh e he
  have pk : (es.toList.map fun e => strOf e.2).Perm l := by
    refine perm_of_nodup n (fun x hx => ?_) (by rw [List.length_map, Array.length_toList]; exact sz)
    obtain ⟨e, he, q⟩ := (F.mem x).mp hx
    obtain ⟨u, hu⟩ := Value.isStrOf_shape (x := x) (v := e.2) q
    exact List.mem_map.mpr ⟨e, he, by rw [hu]; rfl⟩
  have pv : (vs.map strOf).Perm l := by
    have q := p.map strOf
    rw [List.map_map] at q
    exact q.trans pk
  have lv : vs.length = l.length := by have := pv.length_eq; rwa [List.length_map] at this
  have e := each_strs sv
  refine h s1 vs _ ⟨k, z, g, o, e, flat_reads e, alike_strs _, srt_strs _, ?_, fun b hb => ?_⟩ (pv.map _)
  · rw [List.length_map, List.length_map, lv, sizeLine_eq]
    unfold scanBound at hb
    omega
  · obtain ⟨x, _, rfl⟩ := List.mem_map.mp hb
    simp [PyData.depth]
theorem collect_ins {a : Addr} {l : List Int} {S : Int → Bool} {c : Nat} {Q : List Value → Shared → Prop} (hh : A.handled = none) (R : SetR w s.heap a S c) (n : l.Nodup) (hm : ∀ k, S k = true ↔ k ∈ l)
    (h : ∀ s1 vs bs, Col s s1 flatR vs bs → bs.Perm (l.map .int) → Q vs s1) : wpAny (model P w) A (collect (.ref a)) Q E s := by
  obtain ⟨o, es, ep, t, ho, hex, hd, g, nd, mem, hb, hf, hn, hr, hl⟩ := R
  refine collect_set hh ⟨o, ho, hex.1, hd⟩ hf hb hr hl fun s1 vs k z g' o' p => ?_
  have sv : ∀ v ∈ vs, ∃ k u, v = .int k u := fun v hv => by
    obtain ⟨e, he, q⟩ := List.mem_map.mp (p.mem_iff.mp hv)
    obtain ⟨k, tk, h1, _⟩ := g e he
    exact ⟨k, tk, by rw [← q]; exact h1⟩
  have pk : (es.toList.map L2.keyOf).Perm l := nodup_perm nd n fun x => by rw [← mem x, hm x]
  have ke : es.toList.map L2.keyOf = (es.toList.map (·.2)).map intOf := by
    rw [List.map_map]
    refine List.map_congr_left fun e he => ?_
    obtain ⟨k, tk, h1, _⟩ := g e he
    show L2.keyOf e = intOf e.2
    unfold L2.keyOf intOf
    rw [h1]
  have pv : (vs.map intOf).Perm l := (p.map intOf).trans (by rw [← ke]; exact pk)
  have lv : vs.length = es.size := by have := p.length_eq; rwa [List.length_map, Array.length_toList] at this
  have e := each_ints sv
  refine h s1 vs _ ⟨k, z, g', o', e, flat_reads e, alike_intsD _, srt_ints _, ?_, fun b hb => ?_⟩ (pv.map _)
  · rw [List.length_map, List.length_map, lv, sizeLine_eq]
    unfold scanBound at hb
    omega
  · obtain ⟨x, _, rfl⟩ := List.mem_map.mp hb
    simp [PyData.depth]
end
section
variable {X : Cx} {mg : Str → Option Value} {nm : Nat → Str}
theorem ep_list {pins : List (Addr × Obj)} {σ : L2.St} {H : Hp} {s s2 : Shared} {Q : VK} {p : Addr} {out : List Value} {c : Nat} {xs : List V} (I : Inv X pins σ H s) (k : ∀ b o, s.heap.get? b = some o → s2.heap.get? b = some o) (hp : s.heap.objs.size ≤ p)
    (g : s2.gens = s.gens) (o : s2.os = s.os) (hg : s2.heap.get? p = some (seqObj "list" out.toArray c)) (rv : Vals xs out) (hz : xs.length ≤ sizeLine) (q : Q (.ref p) (upd H p (.lst xs))) : EP X pins σ Q (.ref p) s2 := by
  have hn : H p = none := I.hok.fresh hp
  have hz : xs.length ≤ sizeLine := hz
  exact ⟨.ref p, upd H p (.lst xs), I.call' (ch := []) o (Un.laid k hp hn) (I.hok.laid k hp (show ObjOk X.prog X.w _ s2.heap p (.lst xs) from ⟨hz, out, c, rv, hg⟩)) (by rw [g]; exact I.bare) (fun _ z => nomatch z), rfl, q⟩
def drR (K : PySem.W.Frag) (H : Hp) (L : Addr → Prop) (u : Value) (b : PyData) : Prop := ∃ x : V, RelV x u ∧ Dr K H L x b
theorem each_dr {K : PySem.W.Frag} {H : Hp} {L : Addr → Prop} : ∀ {xs : List V} {us : List Value} {bs : List PyData}, Vals xs us → DrL K H L xs bs → EachIs (drR K H L) us bs
  | _, _, _, .nil, .nil => .nil
  | _, _, _, .cons r t, .cons h g => .cons ⟨_, r, h⟩ (each_dr t g)
theorem dr_vals {K : PySem.W.Frag} {H : Hp} {L : Addr → Prop} : ∀ {us : List Value} {bs : List PyData}, EachIs (drR K H L) us bs → ∃ xs, Vals xs us ∧ DrL K H L xs bs
  | _, _, .nil => ⟨[], .nil, .nil⟩
  | _, _, .cons ⟨x, r, h⟩ t => let ⟨xs, a, b⟩ := dr_vals t; ⟨x :: xs, .cons r a, .cons h b⟩
theorem dr_reads {pins : List (Addr × Obj)} {σ : L2.St} {H : Hp} {s : Shared} {L : Addr → Prop} (I : Inv X pins σ H s) {h' : Heap} (k : ∀ b o, s.heap.get? b = some o → h'.get? b = some o) : ∀ {us : List Value} {bs : List PyData}, (∀ b ∈ bs, b.canLay0 = true) → EachIs (drR X.K H L) us bs → EachIs (fun v b => ∃ as, Reads h' v b as) us bs
  | [], [], _, .nil => .nil
  | _ :: _, b :: _, c, .cons h t => by
    obtain ⟨x, r, h⟩ := h
    obtain ⟨as, q⟩ := Dp.reads I b _ _ (h.dp (c b List.mem_cons_self)) r
    exact .cons ⟨as, PyProof.Rows.Reads.keeps k q⟩ (dr_reads I k (fun b hb => c b (List.mem_cons_of_mem _ hb)) t)
theorem sort_run {pins : List (Addr × Obj)} {σ : L2.St} {H : Hp} {s : Shared} {Q : VK} {rev : Bool} {kw : List (Str × Value)} {st : Sto} {j : List Addr} {Z : Addr → Prop} {v : V} {u : Value} {d : PyData} {xs : List PyData} (hc : X.calm = true) (hu : X.A.units + 70 < cLine)
    (hkw : (kw = [] ∧ rev = false) ∨ kw = [(Str.ofString "reverse", .bool rev)]) (I : Inv X pins σ H s) (rl : Rel X.K H j st Z) (vd : Rv X.K H (Lz j st Z) v d) (ru : RelV v u) (hd : d = .list xs ∨ d = .tuple xs) (ok : okSort xs = true)
    (q : OkN X.K H j st Z Q (sortD rev xs) st) : wpAny (model X.prog X.w) X.A (call (.builtin "sorted") [u] kw) (EP X pins σ Q) X.xe s := by
  unfold okSort at ok
  simp only [Bool.and_eq_true, Bool.or_eq_true, decide_eq_true_eq, List.all_eq_true] at ok
  obtain ⟨⟨⟨o1, o2⟩, o3⟩, o4⟩ := ok
  rw [SZ_eq] at o1
  have src : ∃ (a : Addr) (vs : List V) (its : List Value), u = .ref a ∧ DrL X.K H (Lz j st Z) vs xs ∧ Vals vs its ∧ ∀ (E : Value → Shared → Prop) (Q : List Value → Shared → Prop), (∀ h', (∀ b o, s.heap.get? b = some o → h'.get? b = some o) → s.heap.objs.size ≤ h'.objs.size → Q its { s with heap := h' }) → wpAny (model X.prog X.w) X.A.in1 (collect (.ref a)) Q E s := by
    rcases hd with rfl | rfl
    · obtain ⟨a, vs, rfl, h1, g⟩ := vd.list_inv
      cases ru
      obtain ⟨its, rv, pl, hz⟩ := I.list (.inl (.inl h1))
      refine ⟨a, vs, its, rfl, g, rv, fun E Q h => collect_list pl.isList (h _ (fun b u eb => ?_) ?_) (by rw [← rv.length]; exact hz)⟩
      · exact (Heap.get?_update_other _ _ (Nat.ne_of_gt (Heap.lt_size eb))).trans (Heap.get?_push_of_some _ eb)
      · rw [Heap.size_update, size_push']
        exact Nat.le_succ _
    · obtain ⟨a, vs, rfl, h1, g⟩ := vd.tup_inv
      cases ru
      obtain ⟨its, rv, pl, hz⟩ := I.tuple h1.sqt
      exact ⟨a, vs, its, rfl, g, rv, fun E Q h => collect_tup pl (by rw [← rv.length]; exact hz) h⟩
  obtain ⟨a, vs, its, rfl, g, rv, col⟩ := src
  have ea := each_dr rv g
  refine sorted_gen (fun bs => bs = xs) (R := drR X.K H (Lz j st Z)) hkw (fun E Q h => col E Q fun h' k z => h _ _ xs ⟨k, z, rfl, rfl, ea, dr_reads I k (fun b hb => (o2 b hb).1) ea, fun d hd e he => o3 d hd e he, ?_, o1, fun b hb => (o2 b hb).2⟩ rfl) hu fun s1 us bs C eb out s2 p c lo eo k hp g' o' hg => ?_
  · rcases o4 with o4 | o4
    · refine .inl fun d hd => ?_
      have := o4 d hd
      unfold tupNE at this
      split at this
      · exact ⟨_, _, rfl⟩
      · cases this
    · refine .inr fun d hd => ?_
      have := o4 d hd
      constructor
      · rintro rfl; cases this
      · rintro ys rfl; cases this
  · subst eb
    obtain ⟨ys, ry, dy⟩ := dr_vals eo
    have lz : ys.length ≤ sizeLine := by
      rw [dy.length, List.length_mergeSort]
      exact o1
    exact ep_list I k hp g' o' hg ry lz (q.new rl dy (I.hok.fresh hp))
variable {mg : Str → Option Value} {nm : Nat → Str}
theorem sortM_out {K : PySem.W.Frag} {vs : List V} {H : Hp} {Q : VK} {rev : Bool} (h : liftN K mg nm (sortM rev) vs H Q) : ∃ v st j Z d xs, vs = [v] ∧ Rel K H j st Z ∧ Rv K H (Lz j st Z) v d ∧ (d = .list xs ∨ d = .tuple xs) ∧ okSort xs = true ∧ OkN K H j st Z Q (sortD rev xs) st := by
  obtain ⟨ws, st, j, Z, rl, hw, q⟩ := h
  cases hw with
  | nil => exact q.elim
  | cons hw t =>
    cases t with
    | cons _ _ => exact q.elim
    | nil =>
      simp only [sortM] at q
      rw [rwp_bind] at q
      obtain ⟨d, q, vd⟩ := rd_rv rl hw q
      cases d with
      | list xs =>
        dsimp only at q
        split at q
        · exact ⟨_, st, j, Z, _, xs, rfl, rl, vd, .inl rfl, by assumption, q⟩
        · exact q.elim
      | tuple xs =>
        dsimp only at q
        split at q
        · exact ⟨_, st, j, Z, _, xs, rfl, rl, vd, .inr rfl, by assumption, q⟩
        · exact q.elim
      | none => exact q.elim
      | bool b => exact q.elim
      | int b => exact q.elim
      | str b => exact q.elim
      | dict b => exact q.elim
theorem cr_sortedD (hc : X.calm = true) (hu : X.A.units + 70 < cLine) : CallR X (.builtin "sorted") (liftN X.K mg nm (sortM false)) := by
  intro pins s σ H vs us Q I r h
  obtain ⟨v, st, j, Z, d, xs, rfl, rl, vd, hd, ok, q⟩ := sortM_out h
  obtain ⟨u, rfl, ru⟩ := vals1 r
  exact sort_run hc hu (.inl ⟨rfl, rfl⟩) I rl vd ru hd ok q
theorem cr_sortedRv (hc : X.calm = true) (hu : X.A.units + 70 < cLine) (b : Bool) : CallRK X (.builtin "sorted") [Str.ofString "reverse"] (fun vs zs H Q => zs = [.bl b] ∧ liftN X.K mg nm (sortM b) vs H Q) := by
  intro pins s σ H vs zs us ws Q I r rz h
  obtain ⟨rfl, h⟩ := h
  obtain ⟨v, st, j, Z, d, xs, rfl, rl, vd, hd, ok, q⟩ := sortM_out h
  obtain ⟨u, rfl, ru⟩ := vals1 r
  obtain ⟨w1, rfl, e1⟩ := vals1 rz
  obtain rfl : w1 = Value.bool b := e1
  exact sort_run hc hu (.inr rfl) I rl vd ru hd ok q
end
end Gd
namespace Gd
open PySem PySem.Spec L2 PyProof.Rows PySem.W PySem.Froz
section
variable {P : Program} {w : World} {A : Around} {E : Value → Shared → Prop} {s : Shared}
theorem strs_atS : ∀ {us : List Value} {xs : List Str}, StrsAre us xs → ∀ (i : Nat) (v : Value), us[i]? = some v → ∃ t, v = .str (xs.getD i Str.empty) t
  | _, _, .nil, i, v, h => by simp at h
  | _, _, .cons x t r, 0, v, h => by
    simp at h
    subst h
    exact ⟨t, rfl⟩
  | _, _, .cons x t r, i + 1, v, h => by
    obtain ⟨u, e⟩ := strs_atS r i v (by simpa using h)
    exact ⟨u, by rw [e]; simp⟩
theorem txr_fresh {h : Heap} {a : Addr} (ho : h.get? a = some (freshSet w)) : TxR P w h a [] :=
  ⟨(#[], 0, .fresh 0 0 (!w.params.followText "set-order")), ho, TxOk.nil (by rfl), List.Pairwise.nil, by
    show _ ∨ (!w.params.followText "set-order") = true
    cases w.params.followText "set-order"
    · exact .inr rfl
    · exact .inl rfl⟩
theorem addL_nodup {l : List Str} {k : Str} (n : l.Nodup) : (addL l k).Nodup := by
  unfold addL
  split
  · exact n
  · rename_i h
    exact List.nodup_cons.mpr ⟨h, n⟩
theorem addL_mem {l : List Str} {k x : Str} : x ∈ addL l k ↔ x ∈ l ∨ x = k := by
  unfold addL
  split
  · rename_i h
    exact ⟨.inl, fun z => z.elim id fun z => z ▸ h⟩
  · rw [List.mem_cons]
    exact Or.comm
theorem addL_len {l : List Str} {k : Str} : (addL l k).length ≤ l.length + 1 := by
  unfold addL
  split
  · omega
  · exact Nat.le_refl _
theorem foldA_ok : ∀ (xs l : List Str), l.Nodup → (xs.foldl addL l).Nodup ∧ (∀ x, x ∈ xs.foldl addL l ↔ x ∈ l ∨ x ∈ xs) ∧ (xs.foldl addL l).length ≤ l.length + xs.length
  | [], l, n => ⟨n, fun x => ⟨.inl, fun z => z.elim id fun z => nomatch z⟩, Nat.le_refl _⟩
  | y :: xs, l, n => by
    obtain ⟨a, b, c⟩ := foldA_ok xs (addL l y) (addL_nodup n)
    refine ⟨a, fun x => ?_, ?_⟩
    · rw [List.foldl_cons, b, addL_mem, List.mem_cons, or_assoc]
    · rw [List.foldl_cons, List.length_cons]
      have := addL_len (l := l) (k := y)
      omega
theorem set_sorted_strs {l : Addr} {items : Array Value} {xs : List Str} {Q : Value → Shared → Prop} (hh : A.handled = none) (hu : A.units + 70 < cLine) (hl : s.heap.IsList l items) (hi : StrsAre items.toList xs) (hn : xs.length ≤ 1000)
    (k : ∀ (v : Value) (s1 : Shared), (∀ (E : Value → Shared → Prop) (Q : List Value → Shared → Prop), (∀ s2 vs bs, Col s1 s2 flatR vs bs → bs.Perm ((xs.foldl addL []).map .str) → Q vs s2) → wpAny (model P w) A.in1 (collect v) Q E s1) →
      (∀ b o, s.heap.get? b = some o → s1.heap.get? b = some o) → (∃ h tk, s1 = { s with heap := h, toks := tk }) → Q v s1) : wpAny (model P w) A (call (.type "set") [.ref l]) Q E s := by
  have sz : items.size = xs.length := by rw [← StrsAre.len_eq hi, Array.length_toList]
  refine set_call (fun i h => TxR P w h s.heap.objs.size ((xs.take i).foldl addL [])) hh hl (fun h e => txr_fresh e) (fun i h h' ⟨D, e, r⟩ kk => ⟨D, kk _ e, r⟩) (fun i v s2 E Q hlt hv R h => ?_) fun h' tk R kp => ?_
  · obtain ⟨t, rfl⟩ := strs_atS hi i v (by rw [Array.getElem?_toList]; exact hv)
    refine setAdd_tx R ?_ fun b h' sb R' => h b h' _ sb ?_ (Nat.le_succ _)
    · have := (foldA_ok (xs.take i) [] List.nodup_nil).2.2
      rw [List.length_take, List.length_nil] at this
      unfold scanBound
      omega
    · have e : xs.take (i + 1) = xs.take i ++ [xs.getD i Str.empty] := by
        have lt : i < xs.length := by omega
        rw [List.take_add_one, List.getD_eq_getElem?_getD, List.getElem?_eq_getElem lt]
        rfl
      rw [e, List.foldl_append]
      exact R'
  · have R : TxR P w h' s.heap.objs.size ((xs.take items.size).foldl addL []) := R
    rw [sz, List.take_length] at R
    obtain ⟨n1, n2, n3⟩ := foldA_ok xs [] List.nodup_nil
    refine k _ _ (fun E Q hq => collect_txs (s := { s with heap := h', toks := tk }) hh R n1 (by rw [List.length_nil] at n3; unfold scanBound; omega) hq) kp ⟨h', tk, rfl⟩
theorem set_sorted_ints {l : Addr} {items : Array Value} {xs : List Int} {Q : Value → Shared → Prop} (hh : A.handled = none) (hu : A.units + 70 < cLine) (hl : s.heap.IsList l items) (hi : IntsAre items.toList xs) (hn : xs.length ≤ 1000)
    (k : ∀ (v : Value) (s1 : Shared), (∀ (E : Value → Shared → Prop) (Q : List Value → Shared → Prop), (∀ s2 vs bs, Col s1 s2 flatR vs bs → (∃ ks : List Int, bs.Perm (ks.map .int) ∧ ks.Nodup ∧ ∀ x, x ∈ ks ↔ x ∈ xs) → Q vs s2) → wpAny (model P w) A.in1 (collect v) Q E s1) →
      (∀ b o, s.heap.get? b = some o → s1.heap.get? b = some o) → (∃ h tk, s1 = { s with heap := h, toks := tk }) → Q v s1) : wpAny (model P w) A (call (.type "set") [.ref l]) Q E s := by
  have sz : items.size = xs.length := by rw [← hi.length, Array.length_toList]
  refine set_call (fun i h => ∃ c, c ≤ i ∧ SetR w h s.heap.objs.size (fun z => decide (z ∈ xs.take i)) c) hh hl (fun h e => ⟨0, Nat.le_refl _, setR_new_at e⟩) (fun i h h' ⟨c, hc, R⟩ kk => ⟨c, hc, R.at kk⟩) (fun i v s2 E Q hlt hv R h => ?_) fun h' tk R kp => ?_
  · have hlt' : i < xs.length := by omega
    obtain ⟨z, t, hz, rfl⟩ : ∃ z t, xs[i]? = some z ∧ v = .int z t := by
      obtain ⟨z, t, e1, e2⟩ := hi.at i v (by rw [Array.getElem?_toList]; exact hv)
      exact ⟨z, t, e2, e1⟩
    obtain ⟨c, hc, R⟩ := R
    unfold setAdd
    refine wpAny_holding (wpAny_bind ((PySem.intKind P w).pyHash (k := z) (intKind_is _ _ _ _) ?_))
    refine setR_add_hashed (s := { s2 with toks := s2.toks + 1 }) R (by unfold scanBound; omega) fun h' sb R' => h _ h' _ sb ⟨_, ?_, R'.congr fun y => ?_⟩ (Nat.le_succ _)
    · split <;> omega
    · rw [List.take_add_one, hz]
      simp [List.mem_append]
  · obtain ⟨c, hc, R⟩ := R
    rw [sz, List.take_length] at R
    obtain ⟨ks, e, n, m⟩ := once_ints xs
    refine k _ _ (fun E Q hq => collect_ins (s := { s with heap := h', toks := tk }) hh R n (fun y => by rw [decide_eq_true_eq, m]) fun s2 vs bs C p => hq s2 vs bs C ⟨ks, p, n, m⟩) kp ⟨h', tk, rfl⟩
end
section
variable {X : Cx} {mg : Str → Option Value} {nm : Nat → Str}
def liftN1 (K : PySem.W.Frag) (mg : Str → Option Value) (nm : Nat → Str) (f : W → M (List PyData)) : V → Hp → VK → Prop := fun v H Q => ∃ w st j Z, Rel K H j st Z ∧ Wr K mg nm H j st Z v w ∧ RWp (f w st) (OkN K H j st Z Q)
theorem pe_sortedSet {a : Expr} {ta : TE} {p p2 q pos : Pos} (hc : X.calm = true) (hu : X.A.units + 72 < cLine) (hg : Gl X "sorted") (hm : X.mg "sorted" = none) (hg2 : Gl X "set") (hm2 : X.mg "set" = none) (ha : PE X a ta)
    (na : starEach [a] X.env = (false, eval a X.env) :: starEach [] X.env) : PE X (.Call (.Name "sorted" p) [.Call (.Name "set" p2) [a] [] q] [] pos) (tUn (liftN1 X.K mg nm setM) ta) := by
  refine ⟨fun pins s σ H Q I h => ?_⟩
  refine Call_ (ld_blt I hg hm PyProof.Rows.boot_sorted ?_)
  refine PyProof.Rows.callWith_builtin1 (PyProof.Rows.args_cons ?_ rfl) rfl rfl
  refine Call_ (ld_blt I hg2 hm2 PyProof.Rows.boot_set ?_)
  refine PyProof.Rows.callWith_type1 (PyProof.Rows.args_cons (thn (ha.run pins s σ H _ I h) fun v s1 ⟨x, H1, I1, r1, q1⟩ => PyProof.Rows.args_nil ?_) na) na rfl
  obtain ⟨wv, st, j, Z, rl, hw, q1⟩ := q1
  unfold setM at q1
  rw [rwp_bind] at q1
  obtain ⟨d, q1, vd⟩ := rd_rv rl hw q1
  have ex : ∃ xs, d = .list xs ∧ okOnce xs = true ∧ OkN X.K H1 j st Z Q (sortD false (onceD xs)) st := by
    cases d with
    | list xs =>
      dsimp only at q1
      split at q1
      · exact ⟨xs, rfl, by assumption, q1⟩
      · exact q1.elim
    | none => exact q1.elim
    | bool b => exact q1.elim
    | int b => exact q1.elim
    | str b => exact q1.elim
    | dict b => exact q1.elim
    | tuple b => exact q1.elim
  obtain ⟨xs, rfl, ok, q1⟩ := ex
  obtain ⟨b, vs, rfl, h1, g⟩ := vd.list_inv
  cases r1
  obtain ⟨its, rv, pl, hz⟩ := I1.list (.inl (.inl h1))
  unfold okOnce at ok
  simp only [Bool.and_eq_true, Bool.or_eq_true, decide_eq_true_eq] at ok
  obtain ⟨o1, o2⟩ := ok
  have fin : ∀ (v : Value) (s2 : Shared) (Cb : List PyData → Prop), (∀ (E : Value → Shared → Prop) (Q : List Value → Shared → Prop), (∀ s3 vs bs, Col s2 s3 flatR vs bs → Cb bs → Q vs s3) → wpAny (model X.prog X.w) X.A.in1 (collect v) Q E s2) →
      (∀ b o, s1.heap.get? b = some o → s2.heap.get? b = some o) → (∃ h tk, s2 = { s1 with heap := h, toks := tk }) → (∀ bs, Cb bs → sortD false bs = sortD false (onceD xs)) →
      wpAny (model X.prog X.w) X.A (call (.builtin "sorted") [v]) (EP X pins σ Q) X.xe s2 := fun v s2 Cb hcol kp ⟨h, tk, e2⟩ eq => by
    subst e2
    have I2 : Inv X pins σ H1 { s1 with heap := h, toks := tk } := I1.kept kp
    refine sorted_gen Cb (rev := false) (R := flatR) (.inl ⟨rfl, rfl⟩) hcol (by omega) fun s3 us bs C cb out s4 p c lo eo k hp g' o' hg => ?_
    obtain ⟨ys, ry, dy⟩ := flat_vals (K := X.K) (H := H1) (L := Lz j st Z) eo
    have lz : ys.length ≤ sizeLine := by
      rw [dy.length, List.length_mergeSort]
      exact C.len
    have dy' : DrL X.K H1 (Lz j st Z) ys (sortD false (onceD xs)) := by
      rw [← eq bs cb]
      exact dy
    exact ep_list I2 k hp g' o' hg ry lz (q1.new rl dy' (I2.hok.fresh hp))
  rcases o2 with o2 | o2
  · obtain ⟨ns, e⟩ := Option.isSome_iff_exists.mp o2
    rw [intsD_inv e] at g o1 fin
    rw [g.ints] at rv
    refine set_sorted_ints (I1.ok.hd hc) (by omega) pl.isList rv.ints (by simpa using o1) fun v s2 hcol kp ex => PyProof.Rows.args_nil (fin v s2 _ hcol kp ex fun bs ⟨ks, p, n, m⟩ => ?_)
    obtain ⟨k2, e2, n2, m2⟩ := once_ints ns
    rw [e2]
    obtain ⟨ks', ek⟩ : ∃ ks' : List Int, bs = ks'.map .int ∧ ks'.Perm ks := by
      refine ⟨bs.map fun d => match d with | .int i => i | _ => 0, ?_, ?_⟩
      · rw [List.map_map]
        refine (List.map_id bs).symm.trans (List.map_congr_left fun d hd => ?_)
        obtain ⟨i, _, rfl⟩ := List.mem_map.mp (p.mem_iff.mp hd)
        rfl
      · have := p.map fun d => match d with | PyData.int i => i | _ => 0
        rw [List.map_map] at this
        refine this.trans (List.Perm.of_eq ?_)
        exact (List.map_congr_left fun i _ => rfl).trans (List.map_id ks)
    rw [ek.1]
    exact sort_ints_eq (ek.2.trans (nodup_perm n n2 fun x => (m x).trans (m2 x).symm))
  · obtain ⟨ns, e⟩ := Option.isSome_iff_exists.mp o2
    rw [strsD_inv e] at g o1 fin
    rw [g.strs] at rv
    refine set_sorted_strs (I1.ok.hd hc) (by omega) pl.isList rv.strs (by simpa using o1) fun v s2 hcol kp ex => PyProof.Rows.args_nil (fin v s2 _ hcol kp ex fun bs p => ?_)
    obtain ⟨k2, e2, n2, m2⟩ := once_strs ns
    rw [e2]
    obtain ⟨n1, m1, _⟩ := foldA_ok ns [] List.nodup_nil
    obtain ⟨ks', ek⟩ : ∃ ks' : List Str, bs = ks'.map .str ∧ ks'.Perm (ns.foldl addL []) := by
      refine ⟨bs.map fun d => match d with | .str i => i | _ => Str.empty, ?_, ?_⟩
      · rw [List.map_map]
        refine (List.map_id bs).symm.trans (List.map_congr_left fun d hd => ?_)
        obtain ⟨i, _, rfl⟩ := List.mem_map.mp (p.mem_iff.mp hd)
        rfl
      · have := p.map fun d => match d with | PyData.str i => i | _ => Str.empty
        rw [List.map_map] at this
        refine this.trans (List.Perm.of_eq ?_)
        exact (List.map_congr_left fun i _ => rfl).trans (List.map_id _)
    rw [ek.1]
    refine sort_strs_eq (ek.2.trans (nodup_perm n1 n2 fun x => ?_))
    rw [m1, m2]
    exact ⟨fun z => z.elim (fun z => nomatch z) id, .inr⟩
end
end Gd
namespace Gd
open PySem PySem.Spec L2
theorem once_le : ∀ l : List PyData, (onceD l).length ≤ l.length
  | [] => Nat.le_refl _
  | x :: r => by
    unfold onceD
    have := once_le r
    split
    · simp only [List.length_cons]; omega
    · simp only [List.length_cons]; omega
theorem once_full : ∀ l : List PyData, (onceD l).length = l.length → onceD l = l ∧ l.Pairwise fun a b => PyData.eqv a b = false
  | [], _ => ⟨rfl, List.Pairwise.nil⟩
  | x :: r, h => by
    have le := once_le r
    unfold onceD at h ⊢
    split at h
    · simp only [List.length_cons] at h; omega
    · rename_i hn
      simp only [List.length_cons] at h
      obtain ⟨e, p⟩ := once_full r (by omega)
      rw [if_neg hn, e]
      refine ⟨rfl, List.pairwise_cons.mpr ⟨fun y hy => ?_, p⟩⟩
      rw [e] at hn
      cases q : PyData.eqv x y with
      | false => rfl
      | true => exact absurd (List.any_eq_true.mpr ⟨y, hy, q⟩) hn
theorem keys_nodup {ks : List Key} (h : (onceD (ks.map keyD)).length = ks.length) : ks.Nodup := by
  have p := (once_full _ (by rw [List.length_map]; exact h)).2
  rw [List.pairwise_map] at p
  exact p.imp fun {a b} q e => by
    rw [e, eqv_keyD, decide_eq_true rfl] at q
    cases q
theorem merge_new : ∀ (more acc : List (Key × V)), (acc.map (·.1) ++ more.map (·.1)).Nodup → mergeK acc more = acc ++ more
  | [], acc, _ => by rw [List.append_nil]; rfl
  | (k, v) :: r, acc, h => by
    have hk : valV acc k = none := by
      unfold valV
      rw [List.find?_eq_none.mpr (fun kv hm => ?_)]
      · rfl
      · simp only [decide_eq_true_eq]
        intro e
        have := (List.nodup_append.mp h).2.2 kv.1 (List.mem_map.mpr ⟨kv, hm, rfl⟩) k (by simp)
        exact this e
    show mergeK (putK acc k v) r = _
    rw [putK_new v hk, merge_new r (acc ++ [(k, v)]) (by simpa using h)]
    simp
theorem dct_pairs {K : PySem.W.Frag} {H : Hp} {L : Addr → Prop} : ∀ {ps : List PyData} {kvs : List (PyData × PyData)} {vs : List V}, dctD ps = some kvs → DrL K H L vs ps →
    ∃ (as : List Addr) (kv : List (Key × V)), vs = as.map V.ref ∧ Paired (fun p q => SqT K H p [kV q.1, q.2]) as kv ∧ kvs.map (·.1) = kv.map (fun q => keyD q.1) ∧ DrL K H L (kv.map (·.2)) (kvs.map (·.2))
  | [], kvs, vs, e, h => by
    cases e
    cases h
    exact ⟨[], [], rfl, .nil, rfl, .nil⟩
  | p :: ps, kvs, vs, e, h => by
    have sh : ∃ (k : Key) (x : PyData) (r : List (PyData × PyData)), p = .tuple [keyD k, x] ∧ dctD ps = some r ∧ kvs = (keyD k, x) :: r := by
      unfold dctD at e
      split at e
      · cases ‹_ :: _ = _›
      · rename_i k v r heq
        cases heq
        obtain ⟨r', e1, e2⟩ := Option.map_eq_some_iff.mp e
        exact ⟨.inr k, v, r', rfl, e1, e2.symm⟩
      · rename_i k v r heq
        cases heq
        obtain ⟨r', e1, e2⟩ := Option.map_eq_some_iff.mp e
        exact ⟨.inl k, v, r', rfl, e1, e2.symm⟩
      · cases e
    obtain ⟨k, x, r, rfl, e1, rfl⟩ := sh
    cases h with
    | cons hp ht =>
      obtain ⟨as, kv, rfl, pr, ek, ed⟩ := dct_pairs e1 ht
      obtain ⟨a, xs, rfl, ht, g⟩ := hp.tup_inv
      cases g with
      | cons g1 g2 =>
        cases g2 with
        | cons g2 g3 =>
          cases g3
          have e0 : ∀ {v : V}, Dr K H L v (keyD k) → v = kV k := fun {v} q => by
            cases k <;> cases q <;> rfl
          rw [e0 g1] at ht
          refine ⟨a :: as, (k, _) :: kv, rfl, .cons ht.sqt pr, ?_, .cons g2 ed⟩
          rw [List.map_cons, List.map_cons, ek]
section
variable {X : Cx} {mg : Str → Option Value} {nm : Nat → Str}
theorem pairs2 {pins : List (Addr × Obj)} {σ : St} {H : Hp} {s : Shared} (I : Inv X pins σ H s) : ∀ {ps : List Addr} {kvs : List (Key × V)}, Paired (fun p kv => SqT X.K H p [kV kv.1, kv.2]) ps kvs →
    ∃ (prs : List (Value × Value)) (rs : List (Key × Value)), KV kvs rs ∧ prs.length = ps.length ∧ rs.length = ps.length ∧ ∀ (j : Nat) (k v : Value), prs[j]? = some (k, v) → ∃ (b : Addr) (q : Key), ps[j]? = some b ∧ s.heap.IsTuple b #[k, v] ∧ rs[j]? = some (q, v) ∧ keyIs q k = true
  | _, _, .nil => ⟨[], [], .nil, rfl, rfl, fun j k v e => by simp at e⟩
  | _, _, .cons (a := p) (b := kv) h t => by
    obtain ⟨prs, rs, r, l1, l2, hp⟩ := pairs2 I t
    obtain ⟨its, rv, ht, _⟩ := I.tuple h
    obtain ⟨u, y, ei, ru, ry⟩ := vals2 rv
    subst ei
    refine ⟨(u, y) :: prs, (kv.1, y) :: rs, .cons ⟨rfl, ry⟩ r, by rw [List.length_cons, List.length_cons, l1], by rw [List.length_cons, List.length_cons, l2], fun j k v e => ?_⟩
    cases j with
    | zero =>
      have e' : (u, y) = (k, v) := Option.some.inj e
      cases e'
      exact ⟨p, kv.1, rfl, ht, rfl, kV_is (P := X.prog) (w := X.w) ru⟩
    | succ j =>
      obtain ⟨b, q, e1, e2, e3, e4⟩ := hp j k v (by simpa using e)
      exact ⟨b, q, by simpa using e1, e2, by simpa using e3, e4⟩
theorem call_dictT (hcalm : X.calm = true) : CallR X (.type "dict") (fun xs H Q => ∃ (a : Addr) (ps : List Addr) (kvs : List (Key × V)), xs = [.ref a] ∧ TpQ X.K H a (ps.map V.ref) ∧ Paired (fun p kv => SqT X.K H p [kV kv.1, kv.2]) ps kvs ∧
    ∀ p, H p = none → Q (.ref p) (upd H p (.dK (mergeK [] kvs)))) := by
  intro pins s σ H xs us Q I r q
  obtain ⟨a, ps, kvs, rfl, hq, hp, q⟩ := q
  rw [Vals.ref1 r]
  have pl : ∃ its : List Value, Vals (ps.map V.ref) its ∧ ps.length ≤ sizeLine ∧ PlainSeq "tuple" s.heap a its.toArray := by
    rcases hq with ⟨o, hq, hd⟩ | ⟨o, its, n, h1, h2, h3, h4, h5, h6⟩
    · obtain ⟨e1, z, its, rv, o', e2, hc, n, hdat⟩ := I.hok a _ hq
      rw [e1] at e2
      cases e2
      rw [List.length_map] at z
      exact ⟨its, rv, z, o, n, e1, hc, hd, hdat⟩
    · refine ⟨its.toList, h6, ?_, o, n, I.kIn a o h1, h2, h3, by simpa using h4⟩
      have e := h6.length
      rw [List.length_map] at e
      exact Nat.le_trans (Nat.le_of_eq e) (by rw [Array.length_toList]; exact h5)
  obtain ⟨its, rv, hz, pl⟩ := pl
  have ei := refs_at rv
  subst ei
  obtain ⟨prs, rs, rel, l1, l2, hpr⟩ := pairs2 I hp
  have ok : PlainSeq "tuple" s.heap a (ps.map Value.ref).toArray ∧ PairItems s.heap (ps.map Value.ref).toArray (fun j => ps.getD j 0) prs := by
    refine ⟨pl, by simp [l1], fun j k v e => ?_⟩
    obtain ⟨b, q, e1, e2, _, _⟩ := hpr j k v e
    have eb : ps.getD j 0 = b := by rw [List.getD_eq_getElem?_getD, e1]; rfl
    exact ⟨by simp [e1, eb], .inl (by show s.heap.IsTuple (ps.getD j 0) _; rw [eb]; exact e2)⟩
  refine PySem.call_dict_pairs (knd := mixKind X.prog X.w) (kvs := rs) (PairArg.tuple a (ps.map Value.ref).toArray (fun j => ps.getD j 0) prs) (I.ok.hd hcalm) ok ⟨by rw [l1, l2], fun j k v e => ?_⟩ (by rw [l1]; exact hz) fun h' tk hd' k => ?_
  · obtain ⟨b, q, _, _, e3, e4⟩ := hpr j k v e
    exact ⟨q, e3, e4⟩
  · have k' : ∀ b o, s.heap.get? b = some o → h'.get? b = some o := fun b o e => k b o (by simp) e
    have hm : (s.heap.objs.size == sysModules) = false := beq_eq_false_iff_ne.mpr (Nat.ne_of_gt I.big)
    have hlen : (mergeK [] kvs).length ≤ sizeLine := by
      refine Nat.le_trans (length_mergeK kvs []) ?_
      rw [List.length_nil, Nat.zero_add, rel.length, l2]
      exact hz
    exact ⟨.ref s.heap.objs.size, upd H s.heap.objs.size (.dK (mergeK [] kvs)), I.laid (t' := tk) k' (Nat.le_refl _) (show ObjOk X.prog X.w _ _ _ (.dK (mergeK [] kvs)) from ⟨hlen, hm, merged [] rs, KV.merge rel .nil, hd'⟩), rfl, q _ (I.hok.fresh (Nat.le_refl _))⟩
theorem cr_dct (hc : X.calm = true) : CallR X (.type "dict") (fun vs H Q => ∃ x, vs = [x] ∧ lift1 X.K mg nm dctM x H Q) := by
  intro pins s σ H vs us Q I r h
  obtain ⟨x, rfl, w, st, j, Z, rl, hw, q⟩ := h
  unfold dctM at q
  rw [rwp_bind] at q
  obtain ⟨d, q, vd⟩ := rd_rv rl hw q
  rw [rwp_bind] at q
  obtain ⟨ps, e1, q⟩ := rwp_ofO q
  rw [rwp_bind] at q
  obtain ⟨kvs, e2, q⟩ := rwp_ofO q
  split at q
  case isFalse => exact q.elim
  rename_i ok
  unfold okDct at ok
  simp only [Bool.and_eq_true, decide_eq_true_eq] at ok
  have q : OkW X.K mg nm H j st Z Q (.d (.dict kvs)) st := q
  have fin : ∀ (as : List Addr) (kv : List (Key × V)), kvs.map (·.1) = kv.map (fun q => keyD q.1) → DrL X.K H (Lz j st Z) (kv.map (·.2)) (kvs.map (·.2)) → ∀ p, H p = none → Q (.ref p) (upd H p (.dK (mergeK [] kv))) := fun as kv ek ed p hp => by
    have nd : (kv.map (·.1)).Nodup := keys_nodup (by
      have := ok.2
      rw [ek] at this
      rw [List.map_map]
      refine this.trans ?_
      have := congrArg List.length ek
      simpa using this)
    rw [merge_new kv [] (by simpa using nd), List.nil_append]
    exact q _ _ j (rl.new hp) (.dK (.inl upd_same) (rl.fresh hp) ek (ed.ext (Ext.new hp fun a z => .inl z))) (Keep.new hp)
  cases d with
  | list xs =>
    cases e1
    obtain ⟨a, ws, rfl, h1, g⟩ := vd.list_inv
    obtain ⟨as, kv, rfl, pr, ek, ed⟩ := dct_pairs e2 g
    exact call_dictP hc pins s σ H _ us Q I r ⟨a, as, kv, rfl, .inl (.inl h1), pr, fin as kv ek ed⟩
  | tuple xs =>
    cases e1
    obtain ⟨a, ws, rfl, h1, g⟩ := vd.tup_inv
    obtain ⟨as, kv, rfl, pr, ek, ed⟩ := dct_pairs e2 g
    exact call_dictT hc pins s σ H _ us Q I r ⟨a, as, kv, rfl, h1, pr, fin as kv ek ed⟩
  | none => cases e1
  | bool b => cases e1
  | int b => cases e1
  | str b => cases e1
  | dict b => cases e1
end
end Gd
namespace Gd
open PySem PySem.Spec L2
def parOf (p : Arguments) : List Str := p.args.map (·.arg)
def plainP (p : Arguments) : Bool := p.posonlyargs.isEmpty && p.kwonlyargs.isEmpty && p.vararg.isNone && p.kwarg.isNone && decide (parOf p).Nodup
def placesOf (ns : List Str) (m : Nat) (ks : List Str) : List Nat := ns.map fun n => (ns.take m ++ ks).idxOf n
def bindsOkB (ns : List Str) (m : Nat) (ks : List Str) : Bool := decide (m ≤ ns.length) && decide (ns.take m ++ ks).Nodup && ns.all (fun n => decide (n ∈ ns.take m ++ ks)) && ks.all fun k => decide (k ∈ ns)
theorem lookup_zip {α : Type} : ∀ (ks : List Str) (vs : List α) (n : Str), ks.length = vs.length → (ks.zip vs).lookup n = vs[ks.idxOf n]?
  | [], vs, n, h => by
    cases vs with
    | nil => rfl
    | cons _ _ => cases h
  | k :: ks, [], n, h => by cases h
  | k :: ks, v :: vs, n, h => by
    rw [List.zip_cons_cons, List.lookup_cons, List.idxOf_cons]
    by_cases e : n = k
    · subst e
      simp
    · have e1 : (n == k) = false := by simpa using e
      have e2 : (k == n) = false := by simpa using fun z => e z.symm
      rw [e1, e2, lookup_zip ks vs n (by simpa using h)]
      simp
theorem zip_take {α : Type} : ∀ (ns : List Str) (us : List α), us.length ≤ ns.length → ns.zip us = (ns.take us.length).zip us
  | ns, [], _ => by simp
  | [], u :: us, h => by simp at h
  | n :: ns, u :: us, h => by
    rw [List.zip_cons_cons, zip_take ns us (by simpa using h)]
    simp
theorem zip_app {α : Type} (a b : List Str) (x y : List α) (h : a.length = x.length) : a.zip x ++ b.zip y = (a ++ b).zip (x ++ y) := (List.zip_append h).symm
theorem lookup_isSome {α : Type} : ∀ (l : List (Str × α)) (k : Str), (l.lookup k).isSome = decide (k ∈ l.map (·.1))
  | [], k => rfl
  | (a, v) :: l, k => by
    rw [List.lookup_cons]
    by_cases e : k = a
    · subst e
      simp
    · have e1 : (k == a) = false := by simpa using e
      rw [e1, lookup_isSome l k]
      simp [e]
set_option maxHeartbeats 1000000 in
theorem binds_gen {fd : FuncData} {us ws : List Value} {ks : List Str} (hp : plainP fd.params = true) (hd : fd.defaults = .none) (hb : bindsOkB (parOf fd.params) us.length ks = true) (hw : ws.length = ks.length) (s : Shared) :
    BindsTo s fd ⟨us, ks.zip ws⟩ ((parOf fd.params).zip ((placesOf (parOf fd.params) us.length ks).map fun i => (us ++ ws).getD i .none)) := by
  unfold plainP at hp
  simp only [Bool.and_eq_true, List.isEmpty_iff, Option.isNone_iff_eq_none, decide_eq_true_eq] at hp
  obtain ⟨⟨⟨⟨h1, h2⟩, h3⟩, h4⟩, h5⟩ := hp
  unfold bindsOkB at hb
  simp only [Bool.and_eq_true, decide_eq_true_eq, List.all_eq_true] at hb
  obtain ⟨⟨⟨b1, b2⟩, b3⟩, b4⟩ := hb
  intro M A E Q hq
  have e0 : fd.params.args.map (·.arg) = parOf fd.params := rfl
  unfold bindArgs
  simp only [h1, h2, h3, h4, hd, List.map_nil, List.nil_append, e0]
  generalize parOf fd.params = ns at *
  have sl : ns.zip us ++ ks.zip ws = (ns.take us.length ++ ks).zip (us ++ ws) := by
    rw [zip_take ns us b1, zip_app _ _ _ _ (by rw [List.length_take]; omega)]
  have kl : (ns.take us.length ++ ks).length = (us ++ ws).length := by
    rw [List.length_append, List.length_append, List.length_take, hw]
    omega
  have some_ : ∀ n ∈ ns, ((ns.zip us ++ ks.zip ws).lookup n).isSome = true := fun n hn => by
    rw [lookup_isSome, sl, List.map_fst_zip (Nat.le_of_eq kl)]
    exact decide_eq_true (b3 n hn)
  refine wpAny_bind ?_
  refine wpAny_forIn_list _ (fun rest b s' => s' = s ∧ ∃ done, done ++ rest = ks.zip ws ∧ b = (ns.zip us ++ done, [])) _ (fun x rest b s' hI => ?_) (fun b s' hI => ?_) _ _ ⟨rfl, [], rfl, by rw [List.append_nil]⟩
  · obtain ⟨rfl, done, e1, rfl⟩ := hI
    have hm : x.1 ∈ ks := by
      have : x ∈ ks.zip ws := by rw [← e1]; simp
      exact (List.of_mem_zip this).1
    have c1 : ns.contains x.1 = true := by
      rw [List.contains_iff_mem]
      exact b4 _ hm
    have c2 : ((ns.zip us ++ done).lookup x.1).isSome = false := by
      rw [lookup_isSome, decide_eq_false_iff_not]
      intro z
      have q : (ns.zip us ++ ks.zip ws).map (·.1) = ns.take us.length ++ ks := by rw [sl, List.map_fst_zip (Nat.le_of_eq kl)]
      rw [← e1, ← List.append_assoc, List.map_append, List.map_cons] at q
      have nd : ((ns.zip us ++ done).map (·.1) ++ x.1 :: rest.map (·.1)).Nodup := by rw [q]; exact b2
      exact (List.nodup_append.mp nd).2.2 _ z _ List.mem_cons_self rfl
    simp only [c1, Bool.true_or, if_true, c2, Bool.false_eq_true, if_false]
    exact wpAny_pure ⟨rfl, done ++ [x], by rw [List.append_assoc]; exact e1, by rw [List.append_assoc]⟩
  · obtain ⟨rfl, done, e1, rfl⟩ := hI
    rw [List.append_nil] at e1
    subst e1
    have fin : Q (ns.filterMap fun n => ((ns.zip us ++ ks.zip ws).lookup n).map (n, ·)) s' := by
      have e : (ns.filterMap fun n => ((ns.zip us ++ ks.zip ws).lookup n).map (n, ·)) = ns.zip ((placesOf ns us.length ks).map fun i => (us ++ ws).getD i .none) := by
        unfold placesOf
        rw [List.map_map, sl]
        have : ∀ l : List Str, (∀ n ∈ l, n ∈ ns) → (l.filterMap fun n => (((ns.take us.length ++ ks).zip (us ++ ws)).lookup n).map (n, ·)) = l.zip (l.map ((fun i => (us ++ ws).getD i Value.none) ∘ fun n => (ns.take us.length ++ ks).idxOf n)) := by
          intro l
          induction l with
          | nil => intro _; rfl
          | cons n l ih =>
            intro h
            have hn := some_ n (h n List.mem_cons_self)
            rw [sl, lookup_zip _ _ _ kl] at hn
            obtain ⟨v, hv⟩ := Option.isSome_iff_exists.mp hn
            rw [List.filterMap_cons_some (b := (n, v)) (by rw [lookup_zip _ _ _ kl, hv]; rfl), List.map_cons, List.zip_cons_cons, ih fun m hm => h m (List.mem_cons_of_mem _ hm)]
            simp only [Function.comp, List.getD_eq_getElem?_getD, hv, Option.getD_some]
        exact this ns fun _ h => h
      rw [e]
      exact hq
    have nomiss : (ns.filter fun n => ((ns.zip us ++ ks.zip ws).lookup n).isNone) = [] := by
      rw [List.filter_eq_nil_iff]
      intro n hn
      have := some_ n hn
      cases h : (ns.zip us ++ ks.zip ws).lookup n with
      | none => rw [h] at this; cases this
      | some v => simp
    have g1 : (decide (us.length > ns.length) && (Option.isNone (none : Option Arg))) = false := by
      rw [decide_eq_false (by omega)]
      rfl
    have sq : seqItems? Value.none = pure none := rfl
    rw [sq]
    refine wpAny_bind (wpAny_pure ?_)
    simp only [Option.getD_none, List.drop_nil, List.length_nil, Nat.sub_zero, List.take_length, nomiss, List.isEmpty_nil, Bool.not_true, Bool.false_eq_true, if_false, List.zip_nil_right, List.append_nil, g1]
    refine wpAny_bind (wpAny_pure ?_)
    refine wpAny_bind (wpAny_pure ?_)
    exact wpAny_pure fin
end Gd
namespace Gd
open PySem PySem.Spec L2
abbrev cf (X : Cx) (nm : Nat → Str) (cl : Nat → Value × Str) (E : XK) : Cf := ⟨X.K, X.mg, nm, cl, E⟩
theorem pe_imp {X : Cx} {e : Expr} {t t' : TE} (h : PE X e t) (f : ∀ σ H Q, t' σ H Q → t σ H Q) : PE X e t' := ⟨fun pins s σ H Q I q => h.run pins s σ H Q I (f σ H Q q)⟩
theorem pt_imp {X : Cx} {e : Expr} {t t' : TT} (h : PT X e t) (f : ∀ σ H Q, t' σ H Q → t σ H Q) : PT X e t' := ⟨fun pins s σ H Q I q => h.run pins s σ H Q I (f σ H Q q)⟩
theorem pw_imp {X : Cx} {e : Expr} {t t' : TT} (h : PW X e t) (f : ∀ σ H Q, t' σ H Q → t σ H Q) : PW X e t' := ⟨fun wh pins s σ H Q I q => h.run wh pins s σ H Q I (f σ H Q q)⟩
theorem pa_imp {X : Cx} {e : List Expr} {t t' : TA} (h : PA X e t) (f : ∀ σ H Q, t' σ H Q → t σ H Q) : PA X e t' := ⟨fun pos pins s σ H Q I q => h.run pos pins s σ H Q I (f σ H Q q)⟩
theorem pk_imp {X : Cx} {e : List Keyword} {t t' : TA} (h : PK X e t) (f : ∀ σ H Q, t' σ H Q → t σ H Q) : PK X e t' := ⟨fun pos pins s σ H Q I q => h.run pos pins s σ H Q I (f σ H Q q)⟩
theorem ps_imp {X : Cx} {e : Stmt} {t t' : TS} (h : PS X e t) (f : ∀ D σ H, t' D σ H → t D σ H) : PS X e t' := ⟨fun pins s σ H D I q => h.run pins s σ H D I (f D σ H q)⟩
theorem pss_imp {X : Cx} {e : List Stmt} {t t' : TS} (h : PSs X e t) (f : ∀ D σ H, t' D σ H → t D σ H) : PSs X e t' := ⟨fun pins s σ H D I q => h.run pins s σ H D I (f D σ H q)⟩
section
variable {X : Cx} {nm : Nat → Str} {cl : Nat → Value × Str} {E : XK} {ca cb cc : Rho → M W}
theorem ok_wk {Q : VK} {Z : Addr → Prop} (H : Hp) (j : List Addr) (st : Sto) (H' : Hp) (j' : List Addr) (st' : Sto) (a : W) (s2 : Sto) (k : Keep H j st H' j' st') (h : OkW X.K X.mg nm H j st Z Q a s2) : OkW X.K X.mg nm H' j' st' Z Q a s2 := h.weak k
theorem T.var (i : Nat) {σ : L2.St} {H : Hp} {Q : VK} (h : T (cf X nm cl E) (fun ρ => slot ρ i) σ H Q) : tVar i σ H Q := by
  obtain ⟨ρ, st, j, Z, rel, sl, h⟩ := h
  unfold slot at h
  dsimp only at h
  cases e : ρ[i]? with
  | none => rw [e] at h; exact h.elim
  | some o =>
    cases o with
    | none => rw [e] at h; exact h.elim
    | some w =>
      rw [e] at h
      obtain ⟨v, e1, e2⟩ := sl.at_ i w e
      exact ⟨v, e1, h v H j rel e2 Keep.refl⟩
theorem T.cst {d : PyData} {v : V} {σ : L2.St} {H : Hp} {Q : VK} (hv : ∀ L, (∀ a, L a → ∃ o, H a = some o) → Dr X.K H L v d) (h : T (cf X nm cl E) (fun _ => M.pure (.d d)) σ H Q) : tC v σ H Q := by
  obtain ⟨ρ, st, j, Z, rel, sl, h⟩ := h
  exact h v H j rel (hv _ fun a q => rel.live q) Keep.refl
theorem T.op {f : W → W → M W} (n : ∀ x y, NX (f x y)) {σ : L2.St} {H : Hp} {Q : VK} (h : T (cf X nm cl E) (fun ρ => ca ρ >>= fun x => cb ρ >>= fun y => f x y) σ H Q) : tOp (lift2 X.K X.mg nm f) (T (cf X nm cl E) ca) (T (cf X nm cl E) cb) σ H Q := by
  obtain ⟨ρ, st, j, Z, rel, sl, h⟩ := h
  refine T.bind (C := (cf X nm cl E)) (Pk := fun H j st => OkW X.K X.mg nm H j st Z Q) (k := fun x => cb ρ >>= fun y => f x y) rel sl (fun H' j' st' a s2 k q => q.weak k) h fun v w H1 j1 st1 r1 w1 k1 sl1 h1 => ?_
  refine T.bind (C := (cf X nm cl E)) (Pk := fun H j st => OkW X.K X.mg nm H j st Z Q) (k := fun y => f w y) r1 sl1 (fun H' j' st' a s2 k q => q.weak k) h1 fun v2 w2 H2 j2 st2 r2 w2' k2 sl2 h2 => ?_
  exact ⟨w, w2, st2, j2, Z, r2, k2.wr w1, w2', (n w w2).rwp h2⟩
theorem T.un {f : W → M W} (n : ∀ x, NX (f x)) {σ : L2.St} {H : Hp} {Q : VK} (h : T (cf X nm cl E) (fun ρ => ca ρ >>= f) σ H Q) : tUn (lift1 X.K X.mg nm f) (T (cf X nm cl E) ca) σ H Q := by
  obtain ⟨ρ, st, j, Z, rel, sl, h⟩ := h
  refine T.bind (C := (cf X nm cl E)) (Pk := fun H j st => OkW X.K X.mg nm H j st Z Q) (k := f) rel sl (fun H' j' st' a s2 k q => q.weak k) h fun v w H1 j1 st1 r1 w1 k1 sl1 h1 => ?_
  exact ⟨w, st1, j1, Z, r1, w1, (n w).rwp h1⟩
theorem T.unN {f : W → M (List PyData)} (n : ∀ x, NX (f x)) {σ : L2.St} {H : Hp} {Q : VK} (h : TN (cf X nm cl E) (fun ρ => ca ρ >>= f) σ H Q) : tUn (liftN1 X.K X.mg nm f) (T (cf X nm cl E) ca) σ H Q := by
  obtain ⟨ρ, st, j, Z, rel, sl, h⟩ := h
  refine T.bind (C := (cf X nm cl E)) (Pk := fun H j st => OkN X.K H j st Z Q) (k := f) rel sl (fun H' j' st' a s2 k q => q.weak k) h fun v w H1 j1 st1 r1 w1 k1 sl1 h1 => ?_
  exact ⟨w, st1, j1, Z, r1, w1, (n w).rwp h1⟩
theorem pa_nilD : PA X [] (TAr (cf X nm cl E) fun _ => M.pure []) := pa_imp pa_nil fun σ H Q h => by
  obtain ⟨ρ, st, j, Z, rel, sl, h⟩ := h
  exact h [] H j rel .nil Keep.refl
theorem T.cons {cr : Rho → M (List W)} {σ : L2.St} {H : Hp} {Q : List V → Hp → Prop} (h : TAr (cf X nm cl E) (fun ρ => ca ρ >>= fun x => cr ρ >>= fun xs => M.pure (x :: xs)) σ H Q) : tCons (T (cf X nm cl E) ca) (TAr (cf X nm cl E) cr) σ H Q := by
  obtain ⟨ρ, st, j, Z, rel, sl, h⟩ := h
  refine T.bind (C := (cf X nm cl E)) (Pk := fun H j st => OkA X.K X.mg nm H j st Z Q) (k := fun x => cr ρ >>= fun xs => M.pure (x :: xs)) rel sl (fun H' j' st' a s2 k q => q.weak k) h fun v w H1 j1 st1 r1 w1 k1 sl1 h1 => ?_
  refine ⟨ρ, st1, j1, Z, r1, sl1, ?_⟩
  rw [rwx_bind] at h1
  exact h1.mono (fun ws s2 q vs H2 j2 r2 w2 k2 => q (v :: vs) H2 j2 r2 (.cons (k2.wr w1) w2) k2) fun c d s h => h
theorem pa_consD {e : Expr} {es : List Expr} {cr : Rho → M (List W)} (ha : PE X e (T (cf X nm cl E) ca)) (hr : PA X es (TAr (cf X nm cl E) cr)) (hs : starEach (e :: es) X.env = (false, eval e X.env) :: starEach es X.env) :
    PA X (e :: es) (TAr (cf X nm cl E) fun ρ => ca ρ >>= fun x => cr ρ >>= fun xs => M.pure (x :: xs)) := pa_imp (pa_cons ha hr hs) fun σ H Q h => T.cons h
theorem T.args {cr : Rho → M (List W)} {f : List W → M W} (n : ∀ x, NX (f x)) {σ : L2.St} {H : Hp} {Q : VK} (h : T (cf X nm cl E) (fun ρ => cr ρ >>= f) σ H Q) : tCB (liftL X.K X.mg nm f) (TAr (cf X nm cl E) cr) σ H Q := by
  obtain ⟨ρ, st, j, Z, rel, sl, h⟩ := h
  refine ⟨ρ, st, j, Z, rel, sl, ?_⟩
  rw [rwx_bind] at h
  exact h.mono (fun ws s2 q vs H2 j2 r2 w2 k2 => ⟨ws, s2, j2, Z, r2, w2, ((n ws).rwp q).mono fun a s3 q3 => q3.weak k2⟩) fun c d s h => h
theorem T.argsN {cr : Rho → M (List W)} {f : List W → M (List PyData)} (n : ∀ x, NX (f x)) {σ : L2.St} {H : Hp} {Q : VK} (h : TN (cf X nm cl E) (fun ρ => cr ρ >>= f) σ H Q) : tCB (liftN X.K X.mg nm f) (TAr (cf X nm cl E) cr) σ H Q := by
  obtain ⟨ρ, st, j, Z, rel, sl, h⟩ := h
  refine ⟨ρ, st, j, Z, rel, sl, ?_⟩
  rw [rwx_bind] at h
  exact h.mono (fun ws s2 q vs H2 j2 r2 w2 k2 => ⟨ws, s2, j2, Z, r2, w2, ((n ws).rwp q).mono fun a s3 q3 => q3.weak k2⟩) fun c d s h => h
theorem T.asB {σ : L2.St} {H : Hp} {Q : Bool → Hp → Prop} (h : TB (cf X nm cl E) (fun ρ => ca ρ >>= Gd.asB) σ H Q) : tB (T (cf X nm cl E) ca) σ H Q := by
  obtain ⟨ρ, st, j, Z, rel, sl, h⟩ := h
  refine T.bind (C := (cf X nm cl E)) (Pk := fun H j st => OkB X.K H j st Z Q) (k := Gd.asB) rel sl (fun H' j' st' a s2 k q => q.weak k) h fun v w H1 j1 st1 r1 w1 k1 sl1 h1 => ?_
  cases w with
  | d x =>
    cases x with
    | bool b =>
      cases w1
      exact ⟨b, rfl, h1 H1 j1 r1 Keep.refl⟩
    | _ => exact h1.elim
  | r l => exact h1.elim
  | f n => exact h1.elim
  | s ns => exact h1.elim
theorem TB.bind {α : Type} {ct : Rho → M Bool} {k : Bool → M α} {R : Bool → Hp → Prop} {ρ : Rho} {σ : L2.St} {Z : Addr → Prop} {Pk : Hp → List Addr → Sto → α → Sto → Prop} {H : Hp} {j : List Addr} {st : Sto} (rel : Rel X.K H j st Z) (sl : Slots X.K X.mg nm H j st Z σ ρ)
    (wk : ∀ H' j' st' a s2, Keep H j st H' j' st' → Pk H j st a s2 → Pk H' j' st' a s2)
    (h : RWx ((ct ρ >>= k) st) (Pk H j st) (OkX X.K cl H j st Z E))
    (f : ∀ b H1 j1 st1, Rel X.K H1 j1 st1 Z → Keep H j st H1 j1 st1 → Slots X.K X.mg nm H1 j1 st1 Z σ ρ → RWx (k b st1) (Pk H1 j1 st1) (OkX X.K cl H1 j1 st1 Z E) → R b H1) : TB (cf X nm cl E) ct σ H R := by
  refine ⟨ρ, st, j, Z, rel, sl, ?_⟩
  rw [rwx_bind] at h
  exact h.mono (fun w s1 h1 H1 j1 r1 k1 => f w H1 j1 s1 r1 k1 (k1.slots sl) (h1.mono (fun a s2 h2 => wk _ _ _ _ _ k1 h2) fun c d s2 h2 => h2.weak k1)) fun c d s h => h
theorem T.ite {ct : Rho → M Bool} {σ : L2.St} {H : Hp} {Q : VK} (h : T (cf X nm cl E) (fun ρ => ct ρ >>= fun b => if b then ca ρ else cb ρ) σ H Q) : tIf (TB (cf X nm cl E) ct) (T (cf X nm cl E) ca) (T (cf X nm cl E) cb) σ H Q := by
  obtain ⟨ρ, st, j, Z, rel, sl, h⟩ := h
  refine TB.bind (Pk := fun H j st => OkW X.K X.mg nm H j st Z Q) (k := fun b => if b then ca ρ else cb ρ) rel sl (fun H' j' st' a s2 k q => q.weak k) h fun b H1 j1 st1 r1 k1 sl1 h1 => ?_
  cases b with
  | true => exact ⟨ρ, st1, j1, Z, r1, sl1, h1⟩
  | false => exact ⟨ρ, st1, j1, Z, r1, sl1, h1⟩
theorem T.andT {ct cu : Rho → M Bool} {σ : L2.St} {H : Hp} {Q : Bool → Hp → Prop} (h : TB (cf X nm cl E) (fun ρ => ct ρ >>= fun b => if b then cu ρ else M.pure false) σ H Q) : tAnd (TB (cf X nm cl E) ct) (TB (cf X nm cl E) cu) σ H Q := by
  obtain ⟨ρ, st, j, Z, rel, sl, h⟩ := h
  refine TB.bind (Pk := fun H j st => OkB X.K H j st Z Q) (k := fun b => if b then cu ρ else M.pure false) rel sl (fun H' j' st' a s2 k q => q.weak k) h fun b H1 j1 st1 r1 k1 sl1 h1 => ?_
  cases b with
  | true => exact ⟨ρ, st1, j1, Z, r1, sl1, h1⟩
  | false => exact h1 H1 j1 r1 Keep.refl
theorem T.orT {ct cu : Rho → M Bool} {σ : L2.St} {H : Hp} {Q : Bool → Hp → Prop} (h : TB (cf X nm cl E) (fun ρ => ct ρ >>= fun b => if b then M.pure true else cu ρ) σ H Q) : tOr (TB (cf X nm cl E) ct) (TB (cf X nm cl E) cu) σ H Q := by
  obtain ⟨ρ, st, j, Z, rel, sl, h⟩ := h
  refine TB.bind (Pk := fun H j st => OkB X.K H j st Z Q) (k := fun b => if b then M.pure true else cu ρ) rel sl (fun H' j' st' a s2 k q => q.weak k) h fun b H1 j1 st1 r1 k1 sl1 h1 => ?_
  cases b with
  | false => exact ⟨ρ, st1, j1, Z, r1, sl1, h1⟩
  | true => exact h1 H1 j1 r1 Keep.refl
theorem T.notT {ct : Rho → M Bool} {σ : L2.St} {H : Hp} {Q : Bool → Hp → Prop} (h : TB (cf X nm cl E) (fun ρ => ct ρ >>= fun b => M.pure (!b)) σ H Q) : tNot (TB (cf X nm cl E) ct) σ H Q := by
  obtain ⟨ρ, st, j, Z, rel, sl, h⟩ := h
  refine TB.bind (Pk := fun H j st => OkB X.K H j st Z Q) (k := fun b => M.pure (!b)) rel sl (fun H' j' st' a s2 k q => q.weak k) h fun b H1 j1 st1 r1 k1 sl1 h1 => h1 H1 j1 r1 Keep.refl
theorem T.andV {σ : L2.St} {H : Hp} {Q : VK} (h : T (cf X nm cl E) (fun ρ => ca ρ >>= fun x => Gd.asB x >>= fun c => if c then cb ρ else M.pure (.d (.bool false))) σ H Q) : tAndV (T (cf X nm cl E) ca) (T (cf X nm cl E) cb) σ H Q := by
  obtain ⟨ρ, st, j, Z, rel, sl, h⟩ := h
  refine T.bind (C := (cf X nm cl E)) (Pk := fun H j st => OkW X.K X.mg nm H j st Z Q) (k := fun x => Gd.asB x >>= fun c => if c then cb ρ else M.pure (.d (.bool false))) rel sl (fun H' j' st' a s2 k q => q.weak k) h fun v w H1 j1 st1 r1 w1 k1 sl1 h1 => ?_
  cases w with
  | d x =>
    cases x with
    | bool b =>
      cases w1
      refine ⟨b, rfl, ?_⟩
      cases b with
      | true => exact ⟨ρ, st1, j1, Z, r1, sl1, h1⟩
      | false => exact h1 _ H1 j1 r1 (.bl _) Keep.refl
    | _ => exact h1.elim
  | r l => exact h1.elim
  | f n => exact h1.elim
  | s ns => exact h1.elim
theorem T.orV {σ : L2.St} {H : Hp} {Q : VK} (h : T (cf X nm cl E) (fun ρ => ca ρ >>= fun x => Gd.asB x >>= fun c => if c then M.pure (.d (.bool true)) else cb ρ) σ H Q) : tOrV (T (cf X nm cl E) ca) (T (cf X nm cl E) cb) σ H Q := by
  obtain ⟨ρ, st, j, Z, rel, sl, h⟩ := h
  refine T.bind (C := (cf X nm cl E)) (Pk := fun H j st => OkW X.K X.mg nm H j st Z Q) (k := fun x => Gd.asB x >>= fun c => if c then M.pure (.d (.bool true)) else cb ρ) rel sl (fun H' j' st' a s2 k q => q.weak k) h fun v w H1 j1 st1 r1 w1 k1 sl1 h1 => ?_
  cases w with
  | d x =>
    cases x with
    | bool b =>
      cases w1
      refine ⟨b, rfl, ?_⟩
      cases b with
      | false => exact ⟨ρ, st1, j1, Z, r1, sl1, h1⟩
      | true => exact h1 _ H1 j1 r1 (.bl _) Keep.refl
    | _ => exact h1.elim
  | r l => exact h1.elim
  | f n => exact h1.elim
  | s ns => exact h1.elim
theorem T.notV {σ : L2.St} {H : Hp} {Q : VK} (h : T (cf X nm cl E) (fun ρ => ca ρ >>= fun x => Gd.asB x >>= fun c => M.pure (.d (.bool (!c)))) σ H Q) : tNotV (T (cf X nm cl E) ca) σ H Q := by
  obtain ⟨ρ, st, j, Z, rel, sl, h⟩ := h
  refine T.bind (C := (cf X nm cl E)) (Pk := fun H j st => OkW X.K X.mg nm H j st Z Q) (k := fun x => Gd.asB x >>= fun c => M.pure (.d (.bool (!c)))) rel sl (fun H' j' st' a s2 k q => q.weak k) h fun v w H1 j1 st1 r1 w1 k1 sl1 h1 => ?_
  cases w with
  | d x =>
    cases x with
    | bool b =>
      cases w1
      exact ⟨b, rfl, h1 _ H1 j1 r1 (.bl _) Keep.refl⟩
    | _ => exact h1.elim
  | r l => exact h1.elim
  | f n => exact h1.elim
  | s ns => exact h1.elim
end
end Gd
namespace Gd
open PySem PySem.Spec L2
theorem NX.opD (f : PyData → PyData → Option PyData) (x y : W) : NX (opD f x y) := NX.bind (NX.rd x) fun _ => NX.bind (NX.rd y) fun _ => NX.bind (NX.ofO _) fun _ => NX.pure _
theorem NX.cmpB (o : COp) (x y : W) : NX (cmpB o x y) := NX.bind (NX.rd x) fun _ => NX.bind (NX.rd y) fun _ => NX.ofO _
theorem NX.cmpM (o : COp) (x y : W) : NX (cmpM o x y) := NX.bind (NX.cmpB o x y) fun _ => NX.pure _
theorem NX.biM (b : Bi) (ws : List W) : NX (biM b ws) := NX.bind (NX.rdL ws) fun _ => NX.bind (NX.ofO _) fun _ => NX.pure _
theorem NX.isiM (t : Ty) (w : W) : NX (isiM t w) := NX.bind (NX.rd w) fun _ => NX.pure _
theorem NX.asI (w : W) : NX (asI w) := by
  unfold Gd.asI
  split
  · exact NX.pure _
  · exact NX.bad
theorem NX.asB (w : W) : NX (asB w) := by
  unfold Gd.asB
  split
  · exact NX.pure _
  · exact NX.bad
theorem NX.negM (w : W) : NX (negM w) := NX.bind (NX.asI w) fun _ => NX.pure _
theorem NX.slcM (l h : Option Int) (w : W) : NX (slcM l h w) := NX.bind (NX.rd w) fun _ => NX.bind (NX.ofO _) fun _ => NX.pure _
theorem NX.slcN (l h : Option Int) (w : W) : NX (slcN l h w) := NX.bind (NX.rd w) fun x => by
  split
  · exact NX.pure _
  · exact NX.bad
theorem NX.revN (w : W) : NX (revN w) := NX.bind (NX.rd w) fun x => by
  split
  · exact NX.pure _
  · exact NX.bad
theorem NX.catN (a b : W) : NX (catN a b) := NX.bind (NX.rd a) fun x => NX.bind (NX.rd b) fun y => by
  split
  · exact NX.ite (NX.pure _) NX.bad
  · exact NX.bad
theorem NX.dctM (w : W) : NX (dctM w) := NX.bind (NX.rd w) fun _ => NX.bind (NX.ofO _) fun _ => NX.bind (NX.ofO _) fun _ => NX.ite (NX.pure _) NX.bad
theorem NX.listM (ws : List W) : NX (listM ws) := by
  unfold Gd.listM
  split
  · refine NX.bind (NX.rd _) fun x => ?_
    split
    · exact NX.pure _
    · exact NX.pure _
    · exact NX.ite (NX.pure _) NX.bad
    · exact NX.bad
  · exact NX.bad
theorem NX.sortM (r : Bool) (ws : List W) : NX (sortM r ws) := by
  unfold Gd.sortM
  split
  · refine NX.bind (NX.rd _) fun x => ?_
    split
    · exact NX.ite (NX.pure _) NX.bad
    · exact NX.ite (NX.pure _) NX.bad
    · exact NX.bad
  · exact NX.bad
theorem NX.setM (w : W) : NX (setM w) := NX.bind (NX.rd w) fun x => by
  split
  · exact NX.ite (NX.pure _) NX.bad
  · exact NX.bad
theorem NX.fzW (w : W) : NX (fzW w) := by
  cases w with
  | d x => exact NX.pure x
  | r l =>
    intro s c d s' e
    unfold Gd.fzW at e
    dsimp only at e
    split at e <;> cases e
  | f n => exact NX.bad
  | s ns => exact NX.bad
theorem NX.fzL : ∀ ws : List W, NX (fzL ws)
  | [] => NX.pure _
  | w :: r => NX.bind (NX.fzW w) fun _ => NX.bind (NX.fzL r) fun _ => NX.pure _
theorem NX.tupM (ws : List W) : NX (tupM ws) := NX.bind (NX.fzL ws) fun _ => NX.ite (NX.pure _) NX.bad
theorem NX.dispN (ws : List W) : NX (dispN ws) := NX.bind (NX.fzL ws) fun _ => NX.ite (NX.pure _) NX.bad
theorem NX.fzM (w : W) : NX (fzM w) := NX.bind (NX.fzW w) fun _ => NX.pure _
section
variable {K : PySem.W.Frag} {mg : Str → Option Value} {nm : Nat → Str} {H : Hp} {j : List Addr} {s : Sto} {Z : Addr → Prop}
theorem lv_kill {l : Nat} {a : Addr} (h : Lv j (s.set l .dead) a) : Lv j s a := by
  obtain ⟨i, c, h1, h2, h3⟩ := h
  by_cases e : l = i
  · subst e
    by_cases lt : l < s.length
    · rw [List.getElem?_set_self lt] at h2
      cases h2
      exact absurd rfl h3
    · rw [List.getElem?_eq_none (by simpa using lt)] at h2
      cases h2
  · rw [List.getElem?_set_ne e] at h2
    exact ⟨i, c, h1, h2, h3⟩
theorem lz_kill {l : Nat} {a : Addr} (h : Lz j (s.set l .dead) Z a) : Lz j s Z a := h.imp lv_kill id
theorem Rel.kill (r : Rel K H j s Z) (l : Nat) : Rel K H j (s.set l .dead) Z := by
  have back : ∀ {i : Nat} {c : Bx}, (s.set l .dead)[i]? = some c → c ≠ .dead → s[i]? = some c := fun {i c} h n => by
    by_cases e : l = i
    · subst e
      by_cases lt : l < s.length
      · rw [List.getElem?_set_self lt] at h
        cases h
        exact absurd rfl n
      · rw [List.getElem?_eq_none (by simpa using lt)] at h
        cases h
    · rwa [List.getElem?_set_ne e] at h
  refine ⟨by rw [List.length_set]; exact r.len, fun i i' a c c' h1 h2 h3 h4 n1 n2 => r.inj i i' a c c' h1 h2 (back h3 n1) (back h4 n2) n1 n2, fun i a c h1 h2 => ?_, fun a h => ?_⟩
  · cases c with
    | dead => trivial
    | lst ds => exact (r.cell i a _ h1 (back h2 (by simp))).mono fun b q => lz_kill q
    | dct ds => exact (r.cell i a _ h1 (back h2 (by simp))).mono fun b q => lz_kill q
  · exact ⟨fun q => (r.own a h).1 (lv_kill q), (r.own a h).2⟩
theorem Keep.kill (l : Nat) : Keep H j s H j (s.set l .dead) := ⟨Ext.sub fun a q => lv_kill q, fun _ _ h => h⟩
theorem Rel.dead (r : Rel K H j s Z) {l : Nat} {a : Addr} {c : Bx} (h1 : j[l]? = some a) (h2 : s[l]? = some c) (h3 : c ≠ .dead) : ¬ Lz j (s.set l .dead) Z a := by
  rintro (q | q)
  · obtain ⟨i, c', e1, e2, e3⟩ := q
    by_cases e : l = i
    · subst e
      rw [List.getElem?_set_self (List.getElem?_eq_some_iff.mp h2).1] at e2
      cases e2
      exact e3 rfl
    · rw [List.getElem?_set_ne e] at e2
      exact e (r.inj l i a c c' h1 e1 h2 e2 h3 e3)
  · exact (r.own a q).1 ⟨l, c, h1, h2, h3⟩
theorem fzW_out {v : V} {w : W} {P : PyData → Sto → Prop} (r : Rel K H j s Z) (h : Wr K mg nm H j s Z v w) (q : RWp (fzW w s) P) : ∃ d s', P d s' ∧ Rel K H j s' Z ∧ Keep H j s H j s' ∧ Dr K H (Lz j s' Z) v d := by
  cases w with
  | d x => exact ⟨x, s, q, r, Keep.refl, h⟩
  | r l =>
    obtain ⟨a, rfl, ha⟩ := h
    unfold fzW at q
    dsimp only at q
    cases e : s[l]? with
    | none => rw [e] at q; exact q.elim
    | some c =>
      rw [e] at q
      have ok := r.cell l a c ha e
      cases c with
      | lst xs =>
        obtain ⟨vs, hv, hd⟩ := ok
        exact ⟨_, _, q, r.kill l, Keep.kill l, .lst hv (r.dead ha e (by simp)) (hd.mono fun b z => lz_kill z)⟩
      | dct kvs =>
        obtain ⟨kv, hv, hk, hd⟩ := ok
        exact ⟨_, _, q, r.kill l, Keep.kill l, .dK (.inl hv) (r.dead ha e (by simp)) hk (hd.mono fun b z => lz_kill z)⟩
      | dead => exact q.elim
  | f n => exact q.elim
  | s ns => exact q.elim
theorem fzL_out : ∀ {vs : List V} {ws : List W} {s : Sto} {P : List PyData → Sto → Prop}, Rel K H j s Z → WrL K mg nm H j s Z vs ws → RWp (fzL ws s) P → ∃ ds s', P ds s' ∧ Rel K H j s' Z ∧ Keep H j s H j s' ∧ DrL K H (Lz j s' Z) vs ds
  | _, _, s, P, r, .nil, q => ⟨[], s, q, r, Keep.refl, .nil⟩
  | _, _, s, P, r, .cons h t, q => by
    unfold fzL at q
    rw [rwp_bind] at q
    obtain ⟨d, s1, q, r1, k1, v1⟩ := fzW_out r h q
    rw [rwp_bind] at q
    obtain ⟨ds, s2, q, r2, k2, v2⟩ := fzL_out r1 (k1.wrL t) q
    exact ⟨d :: ds, s2, q, r2, k1.trans k2, .cons (k2.dr v1) v2⟩
theorem lv_push {p a : Addr} {c : Bx} (hl : j.length = s.length) : Lv (j ++ [p]) (s ++ [c]) a → Lv j s a ∨ a = p := by
  rintro ⟨i, c', h1, h2, h3⟩
  by_cases lt : i < j.length
  · rw [List.getElem?_append_left lt] at h1
    rw [List.getElem?_append_left (by omega)] at h2
    exact .inl ⟨i, c', h1, h2, h3⟩
  · rw [List.getElem?_append_right (by omega)] at h1
    have := (List.getElem?_eq_some_iff.mp h1).1
    simp only [List.length_singleton] at this
    have e : i - j.length = 0 := by omega
    rw [e] at h1
    exact .inr (Option.some.inj h1).symm
theorem Rel.push {p : Addr} {c : Bx} (r : Rel K H j s (Zp Z p)) (hp : ¬ Z p) (hc : BxOk K H (Lz j s (Zp Z p)) p c) : Rel K H (j ++ [p]) (s ++ [c]) Z := by
  have np : ¬ Lv j s p := (r.own p (.inr rfl)).1
  have lzb : ∀ a, Lz (j ++ [p]) (s ++ [c]) Z a → Lz j s (Zp Z p) a := fun a q => lz_zp.mpr (q.elim (fun q => (lv_push r.len q).imp .inl id) fun q => .inl (.inr q))
  have sp : ∀ {i : Nat} {a : Addr} {c' : Bx}, (j ++ [p])[i]? = some a → (s ++ [c])[i]? = some c' → (j[i]? = some a ∧ s[i]? = some c') ∨ (i = j.length ∧ a = p ∧ c' = c) := fun {i a c'} h1 h2 => by
    by_cases lt : i < j.length
    · rw [List.getElem?_append_left lt] at h1
      rw [List.getElem?_append_left (by rw [← r.len]; exact lt)] at h2
      exact .inl ⟨h1, h2⟩
    · rw [List.getElem?_append_right (by omega)] at h1
      rw [List.getElem?_append_right (by rw [← r.len]; omega)] at h2
      have := (List.getElem?_eq_some_iff.mp h1).1
      simp only [List.length_singleton] at this
      have e : i - j.length = 0 := by omega
      have e2 : i - s.length = 0 := by rw [← r.len]; exact e
      rw [e] at h1
      rw [e2] at h2
      exact .inr ⟨by omega, (Option.some.inj h1).symm, (Option.some.inj h2).symm⟩
  refine ⟨by simp [r.len], fun i i' a c1 c2 h1 h2 h3 h4 n1 n2 => ?_, fun i a c' h1 h2 => ?_, fun a h => ⟨fun q => ?_, (r.own a (.inl h)).2⟩⟩
  · rcases sp h1 h3 with ⟨a1, a2⟩ | ⟨a1, a2, a3⟩
    · rcases sp h2 h4 with ⟨b1, b2⟩ | ⟨b1, b2, b3⟩
      · exact r.inj i i' a c1 c2 a1 b1 a2 b2 n1 n2
      · exact absurd ⟨i, c1, b2 ▸ a1, a2, n1⟩ np
    · rcases sp h2 h4 with ⟨b1, b2⟩ | ⟨b1, b2, b3⟩
      · exact absurd ⟨i', c2, a2 ▸ b1, b2, n2⟩ np
      · omega
  · rcases sp h1 h2 with ⟨a1, a2⟩ | ⟨a1, a2, a3⟩
    · exact (r.cell i a c' a1 a2).mono lzb
    · subst a2 a3
      exact hc.mono lzb
  · rcases lv_push r.len q with q | q
    · exact (r.own a (.inl h)).1 q
    · subst q
      exact hp h
theorem Keep.push {H0 : Hp} {j0 : List Addr} {s0 : Sto} {p : Addr} {c : Bx} (hl : j.length = s.length) (k : Keep H0 j0 s0 H j s) (f : Fr H0 j0 s0 p) : Keep H0 j0 s0 H (j ++ [p]) (s ++ [c]) := by
  refine ⟨⟨fun a o e n t => ?_, k.ext.frz⟩, fun l a e => by
    have q := k.rf l a e
    rw [List.getElem?_append_left (List.getElem?_eq_some_iff.mp q).1]
    exact q⟩
  obtain ⟨q, m⟩ := k.ext.old a o e n t
  refine ⟨q, fun z => ?_⟩
  rcases lv_push hl z with z | z
  · exact m z
  · subst z
    rcases f o e with z | ⟨ps, z⟩
    · exact n z
    · exact t ps z
end
end Gd
namespace Gd
open PySem PySem.Spec L2
section
variable {X : Cx} {nm : Nat → Str} {cl : Nat → Value × Str} {E : XK} {ca cb cc : Rho → M W} {cn : Rho → M (List PyData)} {cr : Rho → M (List W)} {e e1 e2 e3 : Expr} {es : List Expr} {pos : Pos}
theorem pe_eq {c c' : Rho → M W} (h : PE X e (T (cf X nm cl E) c)) (q : ∀ ρ, c' ρ = c ρ) : PE X e (T (cf X nm cl E) c') := by rw [show c' = c from funext q]; exact h
theorem T.frz {σ : L2.St} {H : Hp} {Q : VK} (h : T (cf X nm cl E) (fun ρ => cn ρ >>= fun xs => M.pure (.d (.list xs))) σ H Q) : TN (cf X nm cl E) cn σ H Q := by
  obtain ⟨ρ, st, j, Z, rel, sl, h⟩ := h
  refine ⟨ρ, st, j, Z, rel, sl, ?_⟩
  rw [rwx_bind] at h
  exact h.mono (fun ds s1 q p vs H1 j1 f hp nz d r k => q _ H1 j1 (r.less fun a z => .inl z) (.lst hp (fun z => z.elim (r.own p (.inr rfl)).1 nz) (d.mono fun a z => lz_zp.mpr (.inl z))) k) fun c d s h => h
theorem T.cell {σ : L2.St} {H : Hp} {Q : VK} (h : T (cf X nm cl E) (fun ρ => cn ρ >>= fun xs => newCell (.lst xs)) σ H Q) : TN (cf X nm cl E) cn σ H Q := by
  obtain ⟨ρ, st, j, Z, rel, sl, h⟩ := h
  refine ⟨ρ, st, j, Z, rel, sl, ?_⟩
  rw [rwx_bind] at h
  refine h.mono (fun ds s1 q p vs H1 j1 f hp nz d r k => ?_) fun c d s h => h
  refine q (.ref p) H1 (j1 ++ [p]) (r.push nz ⟨vs, hp, d⟩) ⟨p, rfl, ?_⟩ (k.push r.len f)
  rw [← r.len]
  simp
theorem pe_frzD (h : PE X e (TN (cf X nm cl E) cn)) : PE X e (T (cf X nm cl E) fun ρ => cn ρ >>= fun xs => M.pure (.d (.list xs))) := pe_imp h fun σ H Q q => T.frz q
theorem pe_cellD (h : PE X e (TN (cf X nm cl E) cn)) : PE X e (T (cf X nm cl E) fun ρ => cn ρ >>= fun xs => newCell (.lst xs)) := pe_imp h fun σ H Q q => T.cell q
theorem T.fz {σ : L2.St} {H : Hp} {Q : VK} (h : T (cf X nm cl E) (fun ρ => ca ρ >>= fzM) σ H Q) : T (cf X nm cl E) ca σ H Q := by
  obtain ⟨ρ, st, j, Z, rel, sl, h⟩ := h
  refine T.bind (C := (cf X nm cl E)) (Pk := fun H j st => OkW X.K X.mg nm H j st Z Q) (k := fzM) rel sl (fun H' j' st' a s2 k q => q.weak k) h fun v w H1 j1 st1 r1 w1 k1 sl1 h1 => ?_
  have h1 := (NX.fzM w).rwp h1
  unfold fzM at h1
  rw [rwp_bind] at h1
  obtain ⟨d, s', q, r', k', dr⟩ := fzW_out r1 w1 h1
  exact q v H1 j1 r' dr k'
theorem pe_fzD (h : PE X e (T (cf X nm cl E) ca)) : PE X e (T (cf X nm cl E) fun ρ => ca ρ >>= fzM) := pe_imp h fun σ H Q q => T.fz q
theorem T.tup {σ : L2.St} {H : Hp} {Q : VK} (h : T (cf X nm cl E) (fun ρ => cr ρ >>= tupM) σ H Q) : tTupP (TAr (cf X nm cl E) cr) σ H Q := by
  obtain ⟨ρ, st, j, Z, rel, sl, h⟩ := h
  refine ⟨ρ, st, j, Z, rel, sl, ?_⟩
  rw [rwx_bind] at h
  refine h.mono (fun ws s1 q vs H1 j1 r1 w1 k1 => ?_) fun c d s h => h
  have q := (NX.tupM ws).rwp q
  unfold tupM at q
  rw [rwp_bind] at q
  obtain ⟨ds, s2, q, r2, k2, d2⟩ := fzL_out r1 w1 q
  split at q
  · rename_i hz
    refine ⟨by rw [d2.length, ← SZ_eq]; exact hz, fun p o hp hd => ?_⟩
    exact OkW.tup (OkW.weak q (k1.trans k2)) r2 d2 hp hd
  · exact q.elim
theorem pe_tupD {k : Nat} (h : PA X es (TAr (cf X nm cl E) cr)) : PE X (.Tuple es k pos) (T (cf X nm cl E) fun ρ => cr ρ >>= tupM) := pe_imp (pe_tupP h) fun σ H Q q => T.tup q
theorem T.disp {σ : L2.St} {H : Hp} {Q : VK} (h : TN (cf X nm cl E) (fun ρ => cr ρ >>= dispN) σ H Q) : tLst (TAr (cf X nm cl E) cr) σ H Q := by
  obtain ⟨ρ, st, j, Z, rel, sl, h⟩ := h
  refine ⟨ρ, st, j, Z, rel, sl, ?_⟩
  rw [rwx_bind] at h
  refine h.mono (fun ws s1 q vs H1 j1 r1 w1 k1 => ?_) fun c d s h => h
  have q := (NX.dispN ws).rwp q
  unfold dispN at q
  rw [rwp_bind] at q
  obtain ⟨ds, s2, q, r2, k2, d2⟩ := fzL_out r1 w1 q
  split at q
  · rename_i hz
    refine ⟨by rw [d2.length, ← SZ_eq]; exact hz, fun p hp => ?_⟩
    exact OkN.new (OkN.weak q (k1.trans k2)) r2 d2 hp
  · exact q.elim
theorem pe_dispD (h : PA X es (TAr (cf X nm cl E) cr)) : PE X (.List es pos) (TN (cf X nm cl E) fun ρ => cr ρ >>= dispN) := pe_imp (pe_lst h) fun σ H Q q => T.disp q
theorem pe_binD {o : BOp} (ha : PE X e1 (T (cf X nm cl E) ca)) (hb : PE X e2 (T (cf X nm cl E) cb)) : PE X (.BinOp e1 (opOf o) e2 pos) (T (cf X nm cl E) fun ρ => ca ρ >>= fun x => cb ρ >>= fun y => opD (binD o) x y) :=
  pe_imp (pe_op (or_bin o) ha hb) fun σ H Q q => T.op (fun x y => NX.opD _ x y) q
theorem or_cat : OpR X (binaryOp .Add) (fun x y H Q => ∃ w1 w2 st j Z, Rel X.K H j st Z ∧ Wr X.K X.mg nm H j st Z x w1 ∧ Wr X.K X.mg nm H j st Z y w2 ∧ RWp (catN w1 w2 st) (OkN X.K H j st Z Q)) := by
  intro pins s σ H x y v u Q I rx ry h
  obtain ⟨w1, w2, st, j, Z, r, h1, h2, q⟩ := h
  unfold catN at q
  rw [rwp_bind] at q
  obtain ⟨d1, q, v1⟩ := rd_rv r h1 q
  rw [rwp_bind] at q
  obtain ⟨d2, q, v2⟩ := rd_rv r h2 q
  split at q
  · obtain ⟨a, xs, rfl, h1, g1⟩ := v1.list_inv
    obtain ⟨b, ys, rfl, h2, g2⟩ := v2.list_inv
    split at q
    · rename_i hz
      exact op_cat pins s σ H _ _ v u Q I rx ry ⟨_, _, _, _, rfl, rfl, h1, h2, by rw [g1.length, g2.length, ← SZ_eq]; exact hz, fun p hp => OkN.new q r (g1.append g2) hp⟩
    · exact q.elim
  · exact q.elim
theorem pe_catD (ha : PE X e1 (T (cf X nm cl E) ca)) (hb : PE X e2 (T (cf X nm cl E) cb)) : PE X (.BinOp e1 .Add e2 pos) (TN (cf X nm cl E) fun ρ => ca ρ >>= fun x => cb ρ >>= fun y => catN x y) := by
  refine pe_imp (pe_op (or_cat (nm := nm)) ha hb) fun σ H Q h => ?_
  obtain ⟨ρ, st, j, Z, rel, sl, h⟩ := h
  refine T.bind (C := (cf X nm cl E)) (Pk := fun H j st => OkN X.K H j st Z Q) (k := fun x => cb ρ >>= fun y => catN x y) rel sl (fun H' j' st' a s2 k q => q.weak k) h fun v w H1 j1 st1 r1 w1 k1 sl1 h1 => ?_
  refine T.bind (C := (cf X nm cl E)) (Pk := fun H j st => OkN X.K H j st Z Q) (k := fun y => catN w y) r1 sl1 (fun H' j' st' a s2 k q => q.weak k) h1 fun v2 w2 H2 j2 st2 r2 w2' k2 sl2 h2 => ?_
  exact ⟨w, w2, st2, j2, Z, r2, k2.wr w1, w2', (NX.catN w w2).rwp h2⟩
theorem ur_neg : UnR X (unaryOp .USub) (lift1 X.K X.mg nm negM) := by
  intro pins s σ H x v Q I rx h
  obtain ⟨w, st, j, Z, r, hw, q⟩ := h
  unfold negM at q
  rw [rwp_bind] at q
  cases w with
  | d d =>
    cases d with
    | int i =>
      cases hw
      exact un_neg pins s σ H _ v Q I rx ⟨i, rfl, OkW.same q r (.int _)⟩
    | _ => exact q.elim
  | r l => exact q.elim
  | f n => exact q.elim
  | s ns => exact q.elim
theorem pe_negD (ha : PE X e1 (T (cf X nm cl E) ca)) : PE X (.UnaryOp .USub e1 pos) (T (cf X nm cl E) fun ρ => ca ρ >>= negM) := pe_imp (pe_un ur_neg ha) fun σ H Q q => T.un (fun x => NX.negM x) q
theorem pe_ntD (ha : PE X e1 (T (cf X nm cl E) ca)) : PE X (.UnaryOp .Not e1 pos) (T (cf X nm cl E) fun ρ => ca ρ >>= fun x => Gd.asB x >>= fun c => M.pure (.d (.bool (!c)))) := pe_imp (pe_not ha) fun σ H Q q => T.notV q
theorem pe_cmpD {o : COp} (hu : X.A.units + 64 < cLine) (ha : PE X e1 (T (cf X nm cl E) ca)) (hb : PE X e2 (T (cf X nm cl E) cb)) (hm : behindInMarks (copOf o) e2 = false) : PE X (.Compare e1 [copOf o] [e2] pos) (T (cf X nm cl E) fun ρ => ca ρ >>= fun x => cb ρ >>= fun y => cmpM o x y) :=
  pe_imp (pe_cmpR (or_cmp hu o) ha hb hm) fun σ H Q q => T.op (fun x y => NX.cmpM o x y) q
theorem T.chain {o o' : COp} {σ : L2.St} {H : Hp} {Q : VK} (h : T (cf X nm cl E) (fun ρ => ca ρ >>= fun x => cb ρ >>= fun y => cmpB o x y >>= fun z => if z then cc ρ >>= fun u => cmpM o' y u else M.pure (.d (.bool false))) σ H Q) :
    tChain (lift2 X.K X.mg nm (cmpM o)) (lift2 X.K X.mg nm (cmpM o')) (T (cf X nm cl E) ca) (T (cf X nm cl E) cb) (T (cf X nm cl E) cc) σ H Q := by
  obtain ⟨ρ, st, j, Z, rel, sl, h⟩ := h
  refine T.bind (C := (cf X nm cl E)) (Pk := fun H j st => OkW X.K X.mg nm H j st Z Q) (k := fun x => cb ρ >>= fun y => cmpB o x y >>= fun z => if z then cc ρ >>= fun u => cmpM o' y u else M.pure (.d (.bool false))) rel sl (fun H' j' st' a s2 k q => q.weak k) h fun v w H1 j1 st1 r1 w1 k1 sl1 h1 => ?_
  refine T.bind (C := (cf X nm cl E)) (Pk := fun H j st => OkW X.K X.mg nm H j st Z Q) (k := fun y => cmpB o w y >>= fun z => if z then cc ρ >>= fun u => cmpM o' y u else M.pure (.d (.bool false))) r1 sl1 (fun H' j' st' a s2 k q => q.weak k) h1 fun v2 w2 H2 j2 st2 r2 w2' k2 sl2 h2 => ?_
  refine ⟨w, w2, st2, j2, Z, r2, k2.wr w1, w2', ?_⟩
  rw [rwx_bind] at h2
  have h2 := (NX.cmpB o w w2).rwp h2
  unfold cmpM
  rw [rwp_bind]
  refine h2.mono fun z st3 q v3 H3 j3 r3 w3 k3 => ?_
  cases w3
  refine ⟨z, rfl, ?_⟩
  cases z with
  | false => exact q _ H3 j3 r3 (.bl _) k3
  | true =>
    have q : RWx ((cc ρ >>= fun u => cmpM o' w2 u) st3) _ _ := q
    refine T.bind (C := (cf X nm cl E)) (Pk := fun H j st => OkW X.K X.mg nm H j st Z Q) (k := fun u => cmpM o' w2 u) r3 (k3.slots sl2) (fun H' j' st' a s2 k q => q.weak k) (q.mono (fun a s q => OkW.weak q k3) fun c d s q => OkX.weak q k3) fun v4 w4 H4 j4 st4 r4 w4' k4 sl4 h4 => ?_
    exact ⟨w2, w4, st4, j4, Z, r4, (k3.trans k4).wr w2', w4', (NX.cmpM o' w2 w4).rwp h4⟩
theorem pe_cmp2D {o o' : COp} (hu : X.A.units + 64 < cLine) (ha : PE X e1 (T (cf X nm cl E) ca)) (hb : PE X e2 (T (cf X nm cl E) cb)) (hc : PE X e3 (T (cf X nm cl E) cc)) (hm : lastMarks [copOf o, copOf o'] [e2, e3] = false) :
    PE X (.Compare e1 [copOf o, copOf o'] [e2, e3] pos) (T (cf X nm cl E) fun ρ => ca ρ >>= fun x => cb ρ >>= fun y => cmpB o x y >>= fun z => if z then cc ρ >>= fun u => cmpM o' y u else M.pure (.d (.bool false))) :=
  pe_imp (pe_chain (or_cmp hu o) (or_cmp hu o') ha hb hc hm) fun σ H Q q => T.chain q
theorem pe_iteD {ct : Rho → M Bool} (hc : PT X e1 (TB (cf X nm cl E) ct)) (ha : PE X e2 (T (cf X nm cl E) ca)) (hb : PE X e3 (T (cf X nm cl E) cb)) : PE X (.IfExp e1 e2 e3 pos) (T (cf X nm cl E) fun ρ => ct ρ >>= fun b => if b then ca ρ else cb ρ) := pe_imp (pe_ifExp hc ha hb) fun σ H Q q => T.ite q
theorem pe_idxD (hu : X.A.units + 1 < cLine) (ha : PE X e1 (T (cf X nm cl E) ca)) (hb : PE X e2 (T (cf X nm cl E) cb)) (hs : PlainIx e2) : PE X (.Subscript e1 e2 pos) (T (cf X nm cl E) fun ρ => ca ρ >>= fun x => cb ρ >>= fun y => opD idxD x y) :=
  pe_imp (pe_ix (ixr_idx hu) ha hb hs) fun σ H Q q => T.op (fun x y => NX.opD _ x y) q
def OkO (K : PySem.W.Frag) (H : Hp) (j : List Addr) (st : Sto) (Z : Addr → Prop) (Q : Option Int → Hp → Prop) : Option Int → Sto → Prop := fun b st' => ∀ H' j', Rel K H' j' st' Z → Keep H j st H' j' st' → Q b H'
def TO' (C : Cf) (c : Rho → M (Option Int)) : TO := fun σ H Q => At C σ H fun ρ st j Z => RWx (c ρ st) (OkO C.K H j st Z Q) (OkX C.K C.cl H j st Z C.E)
theorem po_imp {o : Option Expr} {t t' : TO} (h : PO X o t) (f : ∀ σ H Q, t' σ H Q → t σ H Q) : PO X o t' := ⟨fun pins s σ H Q I q => h.run pins s σ H Q I (f σ H Q q)⟩
theorem po_noneD : PO X none (TO' (cf X nm cl E) fun _ => M.pure none) := po_imp po_none fun σ H Q h => by
  obtain ⟨ρ, st, j, Z, rel, sl, h⟩ := h
  exact h H j rel Keep.refl
theorem po_someD (ha : PE X e1 (T (cf X nm cl E) ca)) : PO X (some e1) (TO' (cf X nm cl E) fun ρ => ca ρ >>= fun x => Gd.asI x >>= fun i => M.pure (some i)) := po_imp (po_some ha) fun σ H Q h => by
  obtain ⟨ρ, st, j, Z, rel, sl, h⟩ := h
  refine T.bind (C := (cf X nm cl E)) (Pk := fun H j st => OkO X.K H j st Z Q) (k := fun x => Gd.asI x >>= fun i => M.pure (some i)) rel sl (fun H' j' st' a s2 k q H2 j2 b c => q H2 j2 b (k.trans c)) h fun v w H1 j1 st1 r1 w1 k1 sl1 h1 => ?_
  cases w with
  | d d =>
    cases d with
    | int i =>
      cases w1
      exact ⟨i, rfl, h1 H1 j1 r1 Keep.refl⟩
    | _ => exact h1.elim
  | r l => exact h1.elim
  | f n => exact h1.elim
  | s ns => exact h1.elim
theorem T.sl {α : Type} {co ch : Rho → M (Option Int)} {k : Option Int → Option Int → W → M α} {r : V → Option Int → Option Int → Hp → VK → Prop} {ρ : Rho} {σ : L2.St} {Z : Addr → Prop} {Q : VK} {Pk : Hp → List Addr → Sto → α → Sto → Prop} {H : Hp} {j : List Addr} {st : Sto}
    (rel : Rel X.K H j st Z) (sl : Slots X.K X.mg nm H j st Z σ ρ) (wk : ∀ H' j' st' a s2, Keep H j st H' j' st' → Pk H j st a s2 → Pk H' j' st' a s2) (wk2 : ∀ H j st H' j' st' a s2, Keep H j st H' j' st' → Pk H j st a s2 → Pk H' j' st' a s2)
    (h : RWx ((ca ρ >>= fun x => co ρ >>= fun l => ch ρ >>= fun u => k l u x) st) (Pk H j st) (OkX X.K cl H j st Z E))
    (f : ∀ v w l u H1 j1 st1, Rel X.K H1 j1 st1 Z → Wr X.K X.mg nm H1 j1 st1 Z v w → RWx (k l u w st1) (Pk H1 j1 st1) (OkX X.K cl H1 j1 st1 Z E) → r v l u H1 Q) : tSl r (T (cf X nm cl E) ca) (TO' (cf X nm cl E) co) (TO' (cf X nm cl E) ch) σ H Q := by
  refine T.bind (C := (cf X nm cl E)) (Pk := Pk) (k := fun x => co ρ >>= fun l => ch ρ >>= fun u => k l u x) rel sl wk h fun v w H1 j1 st1 r1 w1 k1 sl1 h1 => ?_
  refine ⟨ρ, st1, j1, Z, r1, sl1, ?_⟩
  rw [rwx_bind] at h1
  refine h1.mono (fun l s2 q H2 j2 r2 k2 => ?_) fun c d s h => h
  refine ⟨ρ, s2, j2, Z, r2, k2.slots sl1, ?_⟩
  rw [rwx_bind] at q
  refine q.mono (fun u s3 q H3 j3 r3 k3 => ?_) fun c d s q => OkX.weak q k2
  exact f v w l u H3 j3 s3 r3 ((k2.trans k3).wr w1) (q.mono (fun a s q => wk2 _ _ _ _ _ _ _ _ (k2.trans k3) q) fun c d s q => OkX.weak q (k2.trans k3))
theorem pe_slcD {lo hi : Option Expr} {co ch : Rho → M (Option Int)} {p2 : Pos} (ha : PE X e1 (T (cf X nm cl E) ca)) (hl : PO X lo (TO' (cf X nm cl E) co)) (hh : PO X hi (TO' (cf X nm cl E) ch)) : PE X (.Subscript e1 (.Slice lo hi none p2) pos) (T (cf X nm cl E) fun ρ => ca ρ >>= fun x => co ρ >>= fun l => ch ρ >>= fun u => slcM l u x) :=
  pe_imp (pe_slice slr_all ha hl hh) fun σ H Q h => by
    obtain ⟨ρ, st, j, Z, rel, sl, h⟩ := h
    refine T.sl (Pk := fun H j st => OkW X.K X.mg nm H j st Z Q) rel sl (fun H' j' st' a s2 k q => OkW.weak q k) (fun H j st H' j' st' a s2 k q => OkW.weak q k) h fun v w l u H1 j1 st1 r1 w1 q => ?_
    exact ⟨w, st1, j1, Z, r1, w1, (NX.slcM l u w).rwp q⟩
def liftSN (K : PySem.W.Frag) (mg : Str → Option Value) (nm : Nat → Str) (f : Option Int → Option Int → W → M (List PyData)) : V → Option Int → Option Int → Hp → VK → Prop := fun x lo hi H Q =>
  ∃ w st j Z, Rel K H j st Z ∧ Wr K mg nm H j st Z x w ∧ RWp (f lo hi w st) (OkN K H j st Z Q)
theorem slr_N : SlR X (liftSN X.K X.mg nm slcN) := by
  intro pins s σ H x v vl vu lo hi sl Q I rx hs pl pu h
  obtain ⟨w, st, j, Z, r, hw, q⟩ := h
  unfold slcN at q
  rw [rwp_bind] at q
  obtain ⟨d, q, v1⟩ := rd_rv r hw q
  split at q
  · obtain ⟨a, vs, rfl, h1, g⟩ := v1.list_inv
    exact sl_list pins s σ H _ v vl vu lo hi sl Q I rx hs pl pu ⟨a, vs, rfl, .inl (.inl h1), fun p hp => OkN.new q r (g.cut lo hi) hp⟩
  · exact q.elim
theorem Wr.sql {K : PySem.W.Frag} {mg : Str → Option Value} {H : Hp} {j : List Addr} {st : Sto} {Z : Addr → Prop} {v : V} {ns : List Int} (h : Wr K mg nm H j st Z v (.s ns)) : ∃ a, v = .ref a ∧ SqL K H a (ns.map V.int) := by
  obtain ⟨a, e, h⟩ := h
  refine ⟨a, e, ?_⟩
  rcases h with ⟨o, h, _⟩ | h
  · exact .inl (.inr ⟨o, h⟩)
  · exact .inr h
theorem cut_ints (ns : List Int) (lo hi : Option Int) : cutV (ns.map V.int) lo hi = (cutD ns lo hi).map V.int := by
  unfold cutV cutD
  rw [List.length_map, ← List.map_drop, ← List.map_take]
theorem slr_S : SlR X (liftSN X.K X.mg nm fun lo hi w => match lo with
    | none => scsN hi w
    | some _ => M.bad) := by
  intro pins s σ H x v vl vu lo hi sl Q I rx hs pl pu h
  obtain ⟨w, st, j, Z, r, hw, q⟩ := h
  cases lo with
  | some i => exact q.elim
  | none =>
    dsimp only at q
    cases w with
    | s ns =>
      obtain ⟨a, rfl, h1⟩ := hw.sql
      have q : OkN X.K H j st Z Q ((cutD ns none hi).map .int) st := q
      exact sl_list pins s σ H _ v vl vu none hi sl Q I rx hs pl pu ⟨a, _, rfl, h1, fun p hp => by
        rw [cut_ints]
        exact OkN.new q r (DrL.of_ints _) hp⟩
    | d d => exact q.elim
    | r l => exact q.elim
    | f n => exact q.elim
theorem pe_slcND {lo hi : Option Expr} {co ch : Rho → M (Option Int)} {p2 : Pos} (ha : PE X e1 (T (cf X nm cl E) ca)) (hl : PO X lo (TO' (cf X nm cl E) co)) (hh : PO X hi (TO' (cf X nm cl E) ch)) : PE X (.Subscript e1 (.Slice lo hi none p2) pos) (TN (cf X nm cl E) fun ρ => ca ρ >>= fun x => co ρ >>= fun l => ch ρ >>= fun u => slcN l u x) :=
  pe_imp (pe_slice slr_N ha hl hh) fun σ H Q h => by
    obtain ⟨ρ, st, j, Z, rel, sl, h⟩ := h
    refine T.sl (Pk := fun H j st => OkN X.K H j st Z Q) rel sl (fun H' j' st' a s2 k q => OkN.weak q k) (fun H j st H' j' st' a s2 k q => OkN.weak q k) h fun v w l u H1 j1 st1 r1 w1 q => ?_
    exact ⟨w, st1, j1, Z, r1, w1, (NX.slcN l u w).rwp q⟩
theorem NX.scsN (h : Option Int) (w : W) : NX (scsN h w) := by
  cases w with
  | s ns => exact NX.pure _
  | d d => exact NX.bad
  | r l => exact NX.bad
  | f n => exact NX.bad
theorem pe_scsD {hi : Option Expr} {ch : Rho → M (Option Int)} {p2 : Pos} (ha : PE X e1 (T (cf X nm cl E) ca)) (hh : PO X hi (TO' (cf X nm cl E) ch)) : PE X (.Subscript e1 (.Slice none hi none p2) pos) (TN (cf X nm cl E) fun ρ => ca ρ >>= fun x => ch ρ >>= fun u => scsN u x) :=
  pe_imp (pe_slice slr_S ha po_noneD hh) fun σ H Q h => by
    obtain ⟨ρ, st, j, Z, rel, sl, h⟩ := h
    refine T.sl (Pk := fun H j st => OkN X.K H j st Z Q) (k := fun l u x => match l with
      | none => Gd.scsN u x
      | some _ => M.bad) rel sl (fun H' j' st' a s2 k q => OkN.weak q k) (fun H j st H' j' st' a s2 k q => OkN.weak q k) h fun v w l u H1 j1 st1 r1 w1 q => ?_
    refine ⟨w, st1, j1, Z, r1, w1, ?_⟩
    cases l with
    | none => exact (NX.scsN u w).rwp q
    | some i => exact q.elim
theorem pe_revD {k : Nat} {p1 p2 p3 : Pos} (ha : PE X e1 (T (cf X nm cl E) ca)) : PE X (.Subscript e1 (.Slice none none (some (.UnaryOp .USub (.Constant (.int 1) k p1) p2)) p3) pos) (TN (cf X nm cl E) fun ρ => ca ρ >>= revN) :=
  pe_imp (pe_revL ha) fun σ H Q h => by
    obtain ⟨ρ, st, j, Z, rel, sl, h⟩ := h
    refine T.bind (C := (cf X nm cl E)) (Pk := fun H j st => OkN X.K H j st Z Q) (k := revN) rel sl (fun H' j' st' a s2 k q => q.weak k) h fun v w H1 j1 st1 r1 w1 k1 sl1 h1 => ?_
    have h1 := (NX.revN w).rwp h1
    unfold revN at h1
    rw [rwp_bind] at h1
    obtain ⟨d, q, v1⟩ := rd_rv r1 w1 h1
    split at q
    · obtain ⟨a, xs, rfl, h1, g1⟩ := v1.list_inv
      exact ⟨a, xs, rfl, .inl (.inl h1), fun p hp => OkN.new q r1 g1.reverse hp⟩
    · exact q.elim
theorem NX.sciM (a b : W) : NX (sciM a b) := NX.bind (NX.asI b) fun i => by
  split
  · exact NX.bind (NX.ofO _) fun _ => NX.pure _
  · exact NX.bad
theorem ixr_sci : IxR X (lift2 X.K X.mg nm sciM) := by
  intro value slice pins s σ H x y v u Q I rx ry h hs
  obtain ⟨w1, w2, st, j, Z, r, h1, h2, q⟩ := h
  unfold sciM at q
  cases w2 with
  | d d =>
    cases d with
    | int i =>
      cases h2
      cases w1 with
      | s ns =>
        obtain ⟨a, rfl, hq⟩ := h1.sql
        have q : RWp ((ofO ((ixD ns.length i).bind fun k => ns[k]?) >>= fun z => M.pure (.d (.int z))) st) (OkW X.K X.mg nm H j st Z Q) := q
        rw [rwp_bind] at q
        obtain ⟨z, e, q⟩ := rwp_ofO q
        refine ix_list value slice pins s σ H _ _ v u Q I rx ry ⟨a, _, i, .int z, rfl, rfl, hq, ?_, OkW.same q r (.int z)⟩ hs
        unfold atI
        rw [List.length_map]
        obtain ⟨k, e1, e2⟩ := Option.bind_eq_some_iff.mp e
        rw [show ixN ns.length i = some k from e1]
        show (ns.map V.int)[k]? = some (.int z)
        rw [List.getElem?_map, e2]
        rfl
      | d d => exact q.elim
      | r l => exact q.elim
      | f n => exact q.elim
    | _ => exact q.elim
  | r l => exact q.elim
  | f n => exact q.elim
  | s ns => exact q.elim
theorem pe_sciD (ha : PE X e1 (T (cf X nm cl E) ca)) (hb : PE X e2 (T (cf X nm cl E) cb)) (hs : PlainIx e2) : PE X (.Subscript e1 e2 pos) (T (cf X nm cl E) fun ρ => ca ρ >>= fun x => cb ρ >>= fun y => Gd.sciM x y) :=
  pe_imp (pe_ix ixr_sci ha hb hs) fun σ H Q q => T.op (fun x y => NX.sciM x y) q
end
end Gd
namespace Gd
open PySem PySem.Spec L2
def biN : Bi → Str
  | .len => "len"
  | .abs => "abs"
  | .int => "int"
  | .max2 => "max"
  | .min2 => "min"
  | .sum => "sum"
  | .all => "all"
  | .any => "any"
  | .repr => "repr"
  | .tuple => "tuple"
  | .divmod => "divmod"
theorem boot_b1 : bootBuiltins "len" = some (.builtin "len") := by kernel_rfl
theorem boot_b2 : bootBuiltins "abs" = some (.builtin "abs") := by kernel_rfl
theorem boot_b3 : bootBuiltins "int" = some (.type "int") := by kernel_rfl
theorem boot_b4 : bootBuiltins "max" = some (.builtin "max") := by kernel_rfl
theorem boot_b5 : bootBuiltins "min" = some (.builtin "min") := by kernel_rfl
theorem boot_b6 : bootBuiltins "sum" = some (.builtin "sum") := by kernel_rfl
theorem boot_b7 : bootBuiltins "all" = some (.builtin "all") := by kernel_rfl
theorem boot_b8 : bootBuiltins "any" = some (.builtin "any") := by kernel_rfl
theorem boot_b9 : bootBuiltins "repr" = some (.builtin "repr") := by kernel_rfl
theorem boot_b10 : bootBuiltins "tuple" = some (.type "tuple") := by kernel_rfl
theorem boot_b11 : bootBuiltins "divmod" = some (.builtin "divmod") := by kernel_rfl
theorem boot_b12 : bootBuiltins "isinstance" = some (.builtin "isinstance") := by kernel_rfl
theorem boot_b13 : bootBuiltins "list" = some (.type "list") := by kernel_rfl
theorem boot_b14 : bootBuiltins "sorted" = some (.builtin "sorted") := by kernel_rfl
theorem boot_b15 : bootBuiltins "dict" = some (.type "dict") := by kernel_rfl
theorem boot_b16 : bootBuiltins "bool" = some (.type "bool") := by kernel_rfl
theorem boot_b17 : bootBuiltins "str" = some (.type "str") := by kernel_rfl
theorem boot_b18 : bootBuiltins "range" = some (.type "range") := by kernel_rfl
theorem boot_b19 : bootBuiltins "enumerate" = some (.type "enumerate") := by kernel_rfl
theorem boot_b20 : bootBuiltins "zip" = some (.type "zip") := by kernel_rfl
structure Fit (X : Cx) : Prop where
  calm : X.calm = true
  gd : X.A.guards = some []
  un : X.A.units + 128 < cLine
  nd : X.N.Nodup
section
variable {X : Cx} {nm : Nat → Str} {cl : Nat → Value × Str} {E : XK} {ca cb cc : Rho → M W} {cn : Rho → M (List PyData)} {cr : Rho → M (List W)} {e e1 e2 e3 : Expr} {es : List Expr} {p pos : Pos}
theorem pe_biD (F : Fit X) (b : Bi) (hg : Gl X (biN b)) (hm : X.mg (biN b) = none) (ha : PA X (e :: es) (TAr (cf X nm cl E) cr)) (he : starEach (e :: es) X.env = (false, eval e X.env) :: starEach es X.env) (hpl : (backTo pos (starEach es X.env)).any (·.1) = false) :
    PE X (.Call (.Name (biN b) p) (e :: es) [] pos) (T (cf X nm cl E) fun ρ => cr ρ >>= biM b) := by
  have un := F.un
  refine pe_imp (t := tCB (liftL X.K X.mg nm (biM b)) (TAr (cf X nm cl E) cr)) ?_ fun σ H Q q => T.args (fun x => NX.biM b x) q
  cases b
  · exact pe_callB cr_len hg hm boot_b1 ha (by decide) (by decide) he hpl
  · exact pe_callB cr_abs hg hm boot_b2 ha (by decide) (by decide) he hpl
  · exact pe_callTy cr_int hg hm boot_b3 ha (by decide) (by decide) he hpl
  · exact pe_callB (cr_max2 F.calm) hg hm boot_b4 ha (by decide) (by decide) he hpl
  · exact pe_callB (cr_min2 F.calm) hg hm boot_b5 ha (by decide) (by decide) he hpl
  · exact pe_callB (cr_sumD F.calm) hg hm boot_b6 ha (by decide) (by decide) he hpl
  · exact pe_callB (cr_allD F.calm) hg hm boot_b7 ha (by decide) (by decide) he hpl
  · exact pe_callB (cr_anyD F.calm) hg hm boot_b8 ha (by decide) (by decide) he hpl
  · exact pe_callB (cr_repr F.gd (by omega)) hg hm boot_b9 ha (by decide) (by decide) he hpl
  · exact pe_callTy cr_tuple hg hm boot_b10 ha (by decide) (by decide) he hpl
  · exact pe_callB cr_dm hg hm boot_b11 ha (by decide) (by decide) he hpl
theorem pa_one (ha : PE X e (T (cf X nm cl E) ca)) (he : starEach [e] X.env = (false, eval e X.env) :: starEach [] X.env) : PA X [e] (tCons (T (cf X nm cl E) ca) tNil) := pa_cons ha pa_nil he
theorem pe_sclD (hg : Gl X "len") (hm : X.mg "len" = none) (ha : PE X e (T (cf X nm cl E) ca)) (he : starEach [e] X.env = (false, eval e X.env) :: starEach [] X.env) (hpl : (backTo pos (starEach [] X.env)).any (·.1) = false) :
    PE X (.Call (.Name "len" p) [e] [] pos) (T (cf X nm cl E) fun ρ => ca ρ >>= sclM) := by
  refine pe_imp (pe_callB call_len hg hm boot_b1 (pa_one ha he) (by decide) (by decide) he hpl) fun σ H Q h => ?_
  obtain ⟨ρ, st, j, Z, rel, sl, h⟩ := h
  refine T.bind (C := (cf X nm cl E)) (Pk := fun H j st => OkW X.K X.mg nm H j st Z Q) (k := sclM) rel sl (fun H' j' st' a s2 k q => q.weak k) h fun v w H1 j1 st1 r1 w1 k1 sl1 h1 => ?_
  cases w with
  | s ns =>
    obtain ⟨a, rfl, hq⟩ := w1.sql
    refine ⟨_, ns.length, rfl, .inl ⟨_, hq, by rw [List.length_map]⟩, ?_⟩
    exact h1 _ H1 j1 r1 (.int _) Keep.refl
  | d d => exact h1.elim
  | r l => exact h1.elim
  | f n => exact h1.elim
theorem pe_isiD (t : Ty) {p2 : Pos} (hg : Gl X "isinstance") (hm : X.mg "isinstance" = none) (hgt : Gl X (tyN t)) (hmt : X.mg (tyN t) = none) (ha : PE X e (T (cf X nm cl E) ca)) (he : starEach [e, .Name (tyN t) p2] X.env = (false, eval e X.env) :: starEach [.Name (tyN t) p2] X.env)
    (he2 : starEach [.Name (tyN t) p2] X.env = (false, eval (.Name (tyN t) p2) X.env) :: starEach [] X.env) (hpl : (backTo pos (starEach [.Name (tyN t) p2] X.env)).any (·.1) = false) :
    PE X (.Call (.Name "isinstance" p) [e, .Name (tyN t) p2] [] pos) (T (cf X nm cl E) fun ρ => ca ρ >>= isiM t) := by
  have pt : PE X (.Name (tyN t) p2) (tC (.ty (tyN t))) := by
    cases t
    · exact pe_bltn hgt hmt boot_b3 rfl (by decide) (by decide)
    · exact pe_bltn hgt hmt boot_b16 rfl (by decide) (by decide)
    · exact pe_bltn hgt hmt boot_b17 rfl (by decide) (by decide)
    · exact pe_bltn hgt hmt boot_b10 rfl (by decide) (by decide)
  refine pe_imp (pe_callB (cr_isi (mg := X.mg) (nm := nm) t) hg hm boot_b12 (pa_cons ha (pa_cons pt pa_nil he2) he) (by decide) (by decide) he hpl) fun σ H Q h => ?_
  obtain ⟨ρ, st, j, Z, rel, sl, h⟩ := h
  refine T.bind (C := (cf X nm cl E)) (Pk := fun H j st => OkW X.K X.mg nm H j st Z Q) (k := isiM t) rel sl (fun H' j' st' a s2 k q => q.weak k) h fun v w H1 j1 st1 r1 w1 k1 sl1 h1 => ?_
  exact ⟨v, rfl, w, st1, j1, Z, r1, w1, (NX.isiM t w).rwp h1⟩
theorem pe_dctD (F : Fit X) (hg : Gl X "dict") (hm : X.mg "dict" = none) (ha : PE X e (T (cf X nm cl E) ca)) (he : starEach [e] X.env = (false, eval e X.env) :: starEach [] X.env) (hpl : (backTo pos (starEach [] X.env)).any (·.1) = false) :
    PE X (.Call (.Name "dict" p) [e] [] pos) (T (cf X nm cl E) fun ρ => ca ρ >>= dctM) := by
  refine pe_imp (pe_callTy (cr_dct (mg := X.mg) (nm := nm) F.calm) hg hm boot_b15 (pa_one ha he) (by decide) (by decide) he hpl) fun σ H Q h => ?_
  obtain ⟨ρ, st, j, Z, rel, sl, h⟩ := h
  refine T.bind (C := (cf X nm cl E)) (Pk := fun H j st => OkW X.K X.mg nm H j st Z Q) (k := dctM) rel sl (fun H' j' st' a s2 k q => q.weak k) h fun v w H1 j1 st1 r1 w1 k1 sl1 h1 => ?_
  exact ⟨v, rfl, w, st1, j1, Z, r1, w1, (NX.dctM w).rwp h1⟩
theorem T.oneN {f : List W → M (List PyData)} (n : ∀ ws, NX (f ws)) {σ : L2.St} {H : Hp} {Q : VK} (h : TN (cf X nm cl E) (fun ρ => ca ρ >>= fun x => f [x]) σ H Q) : tCB (liftN X.K X.mg nm f) (tCons (T (cf X nm cl E) ca) tNil) σ H Q := by
  obtain ⟨ρ, st, j, Z, rel, sl, h⟩ := h
  refine T.bind (C := (cf X nm cl E)) (Pk := fun H j st => OkN X.K H j st Z Q) (k := fun x => f [x]) rel sl (fun H' j' st' a s2 k q => q.weak k) h fun v w H1 j1 st1 r1 w1 k1 sl1 h1 => ?_
  exact ⟨[w], st1, j1, Z, r1, .cons w1 .nil, (n [w]).rwp h1⟩
theorem pe_listD (F : Fit X) (hg : Gl X "list") (hm : X.mg "list" = none) (ha : PE X e (T (cf X nm cl E) ca)) (he : starEach [e] X.env = (false, eval e X.env) :: starEach [] X.env) (hpl : (backTo pos (starEach [] X.env)).any (·.1) = false) :
    PE X (.Call (.Name "list" p) [e] [] pos) (TN (cf X nm cl E) fun ρ => ca ρ >>= fun x => listM [x]) :=
  pe_imp (pe_callTy (cr_list (mg := X.mg) (nm := nm) F.calm) hg hm boot_b13 (pa_one ha he) (by decide) (by decide) he hpl) fun σ H Q h => T.oneN (fun ws => NX.listM ws) h
theorem pe_sortedD (F : Fit X) (hg : Gl X "sorted") (hm : X.mg "sorted" = none) (ha : PE X e (T (cf X nm cl E) ca)) (he : starEach [e] X.env = (false, eval e X.env) :: starEach [] X.env) (hpl : (backTo pos (starEach [] X.env)).any (·.1) = false) :
    PE X (.Call (.Name "sorted" p) [e] [] pos) (TN (cf X nm cl E) fun ρ => ca ρ >>= fun x => sortM false [x]) :=
  pe_imp (pe_callB (cr_sortedD (mg := X.mg) (nm := nm) F.calm (by have := F.un; omega)) hg hm boot_b14 (pa_one ha he) (by decide) (by decide) he hpl) fun σ H Q h => T.oneN (fun ws => NX.sortM false ws) h
theorem pe_sortedRD (F : Fit X) (b : Bool) {k : Nat} {kp p2 : Pos} (hg : Gl X "sorted") (hm : X.mg "sorted" = none) (ha : PE X e (T (cf X nm cl E) ca)) (he0 : starEach [e] X.env = (false, eval e X.env) :: starEach [] X.env)
    (he : backTo pos (starEach [e] X.env) = (false, eval e X.env) :: backTo pos (starEach [] X.env)) (hpl : (backTo pos (starEach [e] X.env)).any (·.1) = false) :
    PE X (.Call (.Name "sorted" p) [e] [⟨some "reverse", .Constant (.bool b) k p2, kp⟩] pos) (TN (cf X nm cl E) fun ρ => ca ρ >>= fun x => sortM b [x]) := by
  refine pe_imp (pe_callBK (ks := [Str.ofString "reverse"]) (cr_sortedRv (mg := X.mg) (nm := nm) F.calm (by have := F.un; omega) b) hg hm boot_b14 (pa_one ha he0) (pk_cons pe_bl pk_nil) (by decide) (by decide) he hpl (by rfl) (by rfl) (by rfl)) fun σ H Q h => ?_
  obtain ⟨ρ, st, j, Z, rel, sl, h⟩ := h
  refine T.bind (C := (cf X nm cl E)) (Pk := fun H j st => OkN X.K H j st Z Q) (k := fun x => sortM b [x]) rel sl (fun H' j' st' a s2 k q => q.weak k) h fun v w H1 j1 st1 r1 w1 k1 sl1 h1 => ?_
  exact ⟨rfl, [w], st1, j1, Z, r1, .cons w1 .nil, (NX.sortM b [w]).rwp h1⟩
theorem pe_sortedSetD (F : Fit X) {p2 q : Pos} (hg : Gl X "sorted") (hm : X.mg "sorted" = none) (hg2 : Gl X "set") (hm2 : X.mg "set" = none) (ha : PE X e (T (cf X nm cl E) ca)) (na : starEach [e] X.env = (false, eval e X.env) :: starEach [] X.env) :
    PE X (.Call (.Name "sorted" p) [.Call (.Name "set" p2) [e] [] q] [] pos) (TN (cf X nm cl E) fun ρ => ca ρ >>= setM) :=
  pe_imp (pe_sortedSet F.calm (by have := F.un; omega) hg hm hg2 hm2 ha na) fun σ H Q h => T.unN (fun x => NX.setM x) h
end
end Gd
namespace Gd
open PySem PySem.Spec L2
section
open PyProof.Rows
variable {X : Cx}
theorem ext_lt (l : Addr) (items : Array Value) (n : Nat) (b : Addr) (items2 : Array Value) (n2 : Nat) (dd : Option Addr) (sl : Array (Option Value)) (hs0 : ¬(!items.isEmpty && Builtin.List.listTooLong (items.size + items2.size)) = true) (hs1 : items.size ≤ sizeLine) (hs2 : items.size + items2.size ≤ sizeLine + 1) :
    Meets (Builtin.«list.extend» ⟨[.ref l, .ref b], []⟩) (fun _ R s => s.heap.get? l = some { cls := .type "list", dict := none, data := .seq items n, slots := #[] } ∧ s.heap.get? b = some { cls := .type "tuple", dict := dd, data := .seq items2 n2, slots := sl } ∧ R (.ok (.ret Value.none)) { s with heap := s.heap.update l (Obj.mapSeq fun x => x ++ items2), toks := s.toks }) :=
  .of_wp fun prog w A R s h => by
    obtain ⟨hp, g, d, tk, os⟩ := s
    obtain ⟨hl, hb, h⟩ := h
    have f1 := PySem.AutoSeq1.idx_int
    have f2 := PySem.AutoSeq1.sub_tuple_tuple
    have f3 := PySem.AutoSeq1.sub_list_list
    have f4 := PySem.AutoSeq1.sub_tuple_list
    have f5 := PySem.AutoSeq1.sub_list_tuple
    have hz' : (items ++ items2).size ≤ sizeLine + 1 := by rw [Array.size_append]; exact hs2
    wp_walk using (wpAny_updateSeq hl rfl (hz := hs1) (_hz' := hz')), PySem.AutoSeq1.wpAny_loadPart' hl, PySem.AutoSeq1.wpAny_loadPart' hb
    exact ⟨_, rfl, h⟩
def rExtT (X : Cx) : V → List V → Hp → VK → Prop := fun x vs H Q => ∃ l b xs zs, x = .ref l ∧ vs = [.ref b] ∧ H l = some (.lst xs) ∧ (H b = some (.lst zs) ∨ SqT X.K H b zs) ∧ xs.length + zs.length ≤ sizeLine ∧ Q .non (upd H l (.lst (xs ++ zs)))
theorem mt_extT : MtR X "list.extend" (rExtT X) := by
  intro pins s σ H x vs v us Q I rx rv h
  obtain ⟨l, b, xs, zs, rfl, rfl, hH, hB, hz, q⟩ := h
  rcases hB with hB | hB
  · exact mt_extend pins s σ H _ _ v us Q I rx rv ⟨l, b, xs, zs, rfl, rfl, hH, hB, hz, q⟩
  · cases rx
    obtain ⟨u, rfl, ru⟩ := rv.one
    cases ru
    obtain ⟨z, its, n, r, hl, e⟩ := I.lstM hH
    obtain ⟨its2, r2, ⟨⟨cls, dd, data, sl⟩, ho, hc, n2, hd⟩, z2⟩ := I.tuple hB
    subst hc hd
    have hl2 := r2.length
    have hsz : its.toArray.size + its2.toArray.size ≤ sizeLine := by rw [List.size_toArray, List.size_toArray]; omega
    have hlong : ¬ (!its.toArray.isEmpty && Builtin.List.listTooLong (its.toArray.size + its2.toArray.size)) = true := by
      rw [notLongL hsz, Bool.and_false]
      exact Bool.false_ne_true
    refine call_meets PySem.F.slot_list_extend ⟨_, e, rfl⟩ PySem.F.entry_list_extend (PySem.F.args_list_extend_2 _ _)
      (ext_lt l its.toArray n b its2.toArray n2 dd sl hlong (by rw [List.size_toArray]; omega) (by omega)) ⟨e, ho, ?_⟩
    refine ⟨.non, _, I.lset (its' := its ++ its2) hH e (by simp) (r.append r2) ?_, rfl, q⟩
    rw [List.length_append]
    omega
end
section
variable {K : PySem.W.Frag} {mg : Str → Option Value} {nm : Nat → Str} {H : Hp} {j : List Addr} {s : Sto} {Z : Addr → Prop}
theorem set_live {l i : Nat} {c c' : Bx} (h : (s.set l c)[i]? = some c') : (l = i ∧ c' = c) ∨ (l ≠ i ∧ s[i]? = some c') := by
  by_cases e : l = i
  · subst e
    by_cases lt : l < s.length
    · rw [List.getElem?_set_self lt] at h
      exact .inl ⟨rfl, (Option.some.inj h).symm⟩
    · rw [List.getElem?_eq_none (by simpa using lt)] at h
      cases h
  · rw [List.getElem?_set_ne e] at h
    exact .inr ⟨e, h⟩
theorem Rel.write {l : Nat} {a : Addr} {c c' : Bx} {o u : HO} (r : Rel K H j s Z) (ha : j[l]? = some a) (hs : s[l]? = some c) (n : c ≠ .dead) (n' : c' ≠ .dead) (hu : H a = some u) (nt : ∀ o xs, u ≠ .frz o xs) (ok : BxOk K (upd H a o) (Lz j s Z) a c') :
    Rel K (upd H a o) j (s.set l c') Z ∧ Keep H j s (upd H a o) j (s.set l c') ∧ ∀ b, Lz j (s.set l c') Z b → Lz j s Z b := by
  have la : Lv j s a := ⟨l, c, ha, hs, n⟩
  have lvb : ∀ b, Lv j (s.set l c') b → Lv j s b := fun b ⟨i, d, h1, h2, h3⟩ => by
    rcases set_live h2 with ⟨e, _⟩ | ⟨_, h2⟩
    · subst e
      rw [ha] at h1
      cases h1
      exact la
    · exact ⟨i, d, h1, h2, h3⟩
  have lzb : ∀ b, Lz j (s.set l c') Z b → Lz j s Z b := fun b q => q.imp (lvb b) id
  have ex : Ext H (Lz j s Z) (upd H a o) (Lz j (s.set l c') Z) := Ext.wr hu (.inl la) nt lzb
  refine ⟨⟨by rw [List.length_set]; exact r.len, fun i i' b d d' h1 h2 h3 h4 n1 n2 => ?_, fun i b d h1 h2 => ?_, fun b h => ?_⟩, ⟨Ext.wr hu la nt lvb, fun _ _ h => h⟩, lzb⟩
  · rcases set_live h3 with ⟨e, _⟩ | ⟨e, h3⟩
    · subst e
      rcases set_live h4 with ⟨e, _⟩ | ⟨e, h4⟩
      · exact e
      · exact r.inj l i' b c d' h1 h2 hs h4 n n2
    · rcases set_live h4 with ⟨e', _⟩ | ⟨e', h4⟩
      · subst e'
        exact r.inj i l b d c h1 h2 h3 hs n1 n
      · exact r.inj i i' b d d' h1 h2 h3 h4 n1 n2
  · rcases set_live h2 with ⟨e, e'⟩ | ⟨e, h2⟩
    · subst e e'
      rw [ha] at h1
      cases h1
      exact ok.mono lzb
    · cases d with
      | dead => trivial
      | lst ds =>
        have ne : b ≠ a := fun z => e (r.inj l i a c _ ha (z ▸ h1) hs h2 n (by simp))
        obtain ⟨vs, e1, d1⟩ := r.cell i b _ h1 h2
        exact ⟨vs, by rw [upd_ne ne]; exact e1, d1.ext ex⟩
      | dct ds =>
        have ne : b ≠ a := fun z => e (r.inj l i a c _ ha (z ▸ h1) hs h2 n (by simp))
        obtain ⟨vs, e1, k1, d1⟩ := r.cell i b _ h1 h2
        exact ⟨vs, by rw [upd_ne ne]; exact e1, k1, d1.ext ex⟩
  · obtain ⟨q, u', hb⟩ := r.own b h
    refine ⟨fun z => q (lvb b z), ?_⟩
    by_cases e : b = a
    · exact ⟨o, by rw [e]; exact upd_same⟩
    · exact ⟨u', by rw [upd_ne e]; exact hb⟩
theorem Rel.writeL {l : Nat} {a : Addr} {xs ds : List PyData} {us vs : List V} (r : Rel K H j s Z) (ha : j[l]? = some a) (hs : s[l]? = some (.lst xs)) (hu : H a = some (.lst us)) (d : DrL K H (Lz j s Z) vs ds) :
    Rel K (upd H a (.lst vs)) j (s.set l (.lst ds)) Z ∧ Keep H j s (upd H a (.lst vs)) j (s.set l (.lst ds)) ∧ ∀ b, Lz j (s.set l (.lst ds)) Z b → Lz j s Z b := by
  have la : Lv j s a := ⟨l, _, ha, hs, by simp⟩
  exact r.write ha hs (by simp) (by simp) hu (fun o xs z => by cases z) ⟨vs, upd_same, d.ext (Ext.wr hu (.inl la) (fun o xs z => by cases z) fun b q => q)⟩
theorem chkL_out {α : Type} {ρ : Rho} {i : Nat} {k : Unit → M α} {P : α → Sto → Prop} {XX : Nat → PyData → Sto → Prop} (h : RWx ((chkL ρ i >>= k) s) P XX) : ∃ l xs, ρ[i]? = some (some (.r l)) ∧ s[l]? = some (.lst xs) ∧ RWx (k () s) P XX := by
  rw [rwx_bind] at h
  unfold chkL at h
  cases e : ρ[i]? with
  | none => rw [e] at h; exact h.elim
  | some o =>
    cases o with
    | none => rw [e] at h; exact h.elim
    | some w =>
      cases w with
      | r l =>
        rw [e] at h
        dsimp only at h
        cases e2 : s[l]? with
        | none => rw [e2] at h; exact h.elim
        | some c =>
          cases c with
          | lst xs => rw [e2] at h; exact ⟨l, xs, rfl, e2, h⟩
          | dct k => rw [e2] at h; exact h.elim
          | dead => rw [e2] at h; exact h.elim
      | d d => rw [e] at h; exact h.elim
      | f n => rw [e] at h; exact h.elim
      | s ns => rw [e] at h; exact h.elim
theorem modL_out {ρ : Rho} {i l : Nat} {f : List PyData → Option (W × List PyData)} {P : W → Sto → Prop} (e : ρ[i]? = some (some (.r l))) (h : RWp (modL ρ i f s) P) : ∃ xs w ys, s[l]? = some (.lst xs) ∧ f xs = some (w, ys) ∧ P w (s.set l (.lst ys)) := by
  unfold modL at h
  rw [e] at h
  dsimp only at h
  cases e2 : s[l]? with
  | none => rw [e2] at h; exact h.elim
  | some c =>
    rw [e2] at h
    cases c with
    | lst xs =>
      dsimp only at h
      cases e3 : f xs with
      | none => rw [e3] at h; exact h.elim
      | some q =>
        obtain ⟨w, ys⟩ := q
        rw [e3] at h
        exact ⟨xs, w, ys, rfl, e3, h⟩
    | dct k => exact h.elim
    | dead => exact h.elim
theorem NX.modL (ρ : Rho) (i : Nat) (f : List PyData → Option (W × List PyData)) : NX (modL ρ i f) := by
  unfold Gd.modL
  cases ρ[i]? with
  | none => exact NX.bad
  | some o =>
    cases o with
    | none => exact NX.bad
    | some w =>
      cases w with
      | r l =>
        intro s c d s' e
        dsimp only at e
        split at e
        · split at e <;> cases e
        · cases e
      | d d => exact NX.bad
      | f n => exact NX.bad
      | s ns => exact NX.bad
end
section
variable {X : Cx} {nm : Nat → Str} {cl : Nat → Value × Str} {E : XK} {ca cb cc : Rho → M W} {cr : Rho → M (List W)} {e : Expr} {es : List Expr} {p pos apos cpos : Pos} {i : Nat} {x : Str}
structure MForm (X : Cx) (x : Str) (p : Pos) (m : Str) (apos : Pos) (e : Expr) (cpos : Pos) : Prop where
  base : attributeBase (.Name x p) m X.env (eval (.Name x p) X.env) = eval (.Name x p) X.env
  few : ((backTo cpos (starEach [e] X.env)).all (fun x => !x.1) && (backToKw cpos (keywordEach [] X.env)).all (fun x => x.1.isSome) && decide ([e].length + ([] : List Keyword).length + (if ([] : List Keyword).isEmpty then 0 else 1) < 30)) = true
  line : (apos.endLine == cpos.line) = true
  st : starEach [e] X.env = (false, eval e X.env) :: starEach [] X.env
  pl : (backTo cpos (starEach [] X.env)).any (·.1) = false
theorem pe_methD {m : Str} {id : String} {r : V → List V → Hp → VK → Prop} {km : Rho → W → M W} (hN : X.N[i]? = some x) (hv : Vis X.env.scope x) (hd : (x == ("__debug__" : Str)) = false) (hcd : (x == ("__classdict__" : Str)) = false) (slot : Slot "list" m id) (hty : typeOf (.builtin id) = pure (.type "method_descriptor"))
    (hm : MtR X id r) (F : MForm X x p m apos e cpos) (ha : PE X e (T (cf X nm cl E) ca)) (nx : ∀ ρ w, NX (km ρ w))
    (g : ∀ (ρ : Rho) (l : Nat) (a : Addr) v w H1 j1 st1 Z Q, ρ[i]? = some (some (.r l)) → j1[l]? = some a → Rel X.K H1 j1 st1 Z → Wr X.K X.mg nm H1 j1 st1 Z v w → RWp (km ρ w st1) (OkW X.K X.mg nm H1 j1 st1 Z Q) → r (.ref a) [v] H1 Q) :
    PE X (.Call (.Attribute (.Name x p) m apos) [e] [] cpos) (T (cf X nm cl E) fun ρ => chkL ρ i >>= fun _ => ca ρ >>= km ρ) := by
  refine pe_imp (pe_bm PySem.F.plainAttrs_list slot hty hm (pe_var hN hv hd hcd) (pa_cons ha pa_nil F.st) F.base F.few F.line F.st F.pl) fun σ H Q h => ?_
  obtain ⟨ρ, st, j, Z, rel, sl, h⟩ := h
  obtain ⟨l, xs, e1, e2, h⟩ := chkL_out h
  obtain ⟨v0, e3, a, rfl, e4⟩ := sl.at_ i _ e1
  obtain ⟨vs, e5, e6⟩ := rel.cell l a _ e4 e2
  refine ⟨.ref a, e3, .inl ⟨rfl, vs, .inl (.inl e5)⟩, ?_⟩
  refine T.bind (C := (cf X nm cl E)) (Pk := fun H j st => OkW X.K X.mg nm H j st Z Q) (k := km ρ) rel sl (fun H' j' st' a s2 k q => OkW.weak q k) h fun v w H1 j1 st1 r1 w1 k1 sl1 h1 => ?_
  exact g ρ l a v w H1 j1 st1 Z Q e1 (k1.rf l a e4) r1 w1 ((nx ρ w).rwp h1)
theorem pe_appD (hN : X.N[i]? = some x) (hv : Vis X.env.scope x) (hd : (x == ("__debug__" : Str)) = false) (hcd : (x == ("__classdict__" : Str)) = false) (F : MForm X x p "append" apos e cpos) (ha : PE X e (T (cf X nm cl E) ca)) :
    PE X (.Call (.Attribute (.Name x p) "append" apos) [e] [] cpos) (T (cf X nm cl E) fun ρ => chkL ρ i >>= fun _ => ca ρ >>= fun w => fzW w >>= fun y => modL ρ i (appK y)) := by
  refine pe_methD (km := fun ρ w => fzW w >>= fun y => modL ρ i (appK y)) hN hv hd hcd PySem.F.slot_list_append PySem.F.type_list_append mt_append F ha (fun ρ w => NX.bind (NX.fzW w) fun _ => NX.modL _ _ _) fun ρ l a v w H1 j1 st1 Z Q e1 e4 r1 w1 h1 => ?_
  rw [rwp_bind] at h1
  obtain ⟨d, s', q, r2, k2, dr⟩ := fzW_out r1 w1 h1
  obtain ⟨xs, w', ys, e2, e3, q⟩ := modL_out e1 q
  unfold appK at e3
  split at e3
  · rename_i hz
    cases e3
    obtain ⟨us, hu, hd⟩ := r2.cell l a _ e4 e2
    obtain ⟨r3, k3, _⟩ := r2.writeL e4 e2 hu (hd.append (.cons dr .nil))
    exact ⟨a, us, v, rfl, rfl, hu, by rw [hd.length, ← SZ_eq]; exact hz, q _ _ j1 r3 .non (k2.trans k3)⟩
  · cases e3
theorem pe_extD (hN : X.N[i]? = some x) (hv : Vis X.env.scope x) (hd : (x == ("__debug__" : Str)) = false) (hcd : (x == ("__classdict__" : Str)) = false) (F : MForm X x p "extend" apos e cpos) (ha : PE X e (T (cf X nm cl E) ca)) :
    PE X (.Call (.Attribute (.Name x p) "extend" apos) [e] [] cpos) (T (cf X nm cl E) fun ρ => chkL ρ i >>= fun _ => ca ρ >>= fun w => rd w >>= fun y => modL ρ i (extK y)) := by
  refine pe_methD (km := fun ρ w => rd w >>= fun y => modL ρ i (extK y)) hN hv hd hcd PySem.F.slot_list_extend PySem.F.type_list_extend mt_extT F ha (fun ρ w => NX.bind (NX.rd w) fun _ => NX.modL _ _ _) fun ρ l a v w H1 j1 st1 Z Q e1 e4 r1 w1 h1 => ?_
  rw [rwp_bind] at h1
  obtain ⟨d, q, dr⟩ := rd_rv r1 w1 h1
  obtain ⟨xs, w', ys, e2, e3, q⟩ := modL_out e1 q
  cases d with
  | list zs =>
    simp only [extK] at e3
    split at e3
    · rename_i hz
      cases e3
      obtain ⟨b, vs, rfl, hb, hvb⟩ := dr.list_inv
      obtain ⟨us, hu, hd⟩ := r1.cell l a _ e4 e2
      obtain ⟨r3, k3, _⟩ := r1.writeL e4 e2 hu (hd.append hvb)
      exact ⟨a, b, us, vs, rfl, rfl, hu, .inl hb, by rw [hd.length, hvb.length, ← SZ_eq]; exact hz, q _ _ j1 r3 .non k3⟩
    · cases e3
  | tuple zs =>
    simp only [extK] at e3
    split at e3
    · rename_i hz
      cases e3
      obtain ⟨b, vs, rfl, hb, hvb⟩ := dr.tup_inv
      obtain ⟨us, hu, hd⟩ := r1.cell l a _ e4 e2
      obtain ⟨r3, k3, _⟩ := r1.writeL e4 e2 hu (hd.append hvb)
      exact ⟨a, b, us, vs, rfl, rfl, hu, .inr hb.sqt, by rw [hd.length, hvb.length, ← SZ_eq]; exact hz, q _ _ j1 r3 .non k3⟩
    · cases e3
  | _ => simp [extK] at e3
theorem pe_popD (hN : X.N[i]? = some x) (hv : Vis X.env.scope x) (hd : (x == ("__debug__" : Str)) = false) (hcd : (x == ("__classdict__" : Str)) = false) (F : MForm X x p "pop" apos e cpos) (ha : PE X e (T (cf X nm cl E) ca)) :
    PE X (.Call (.Attribute (.Name x p) "pop" apos) [e] [] cpos) (T (cf X nm cl E) fun ρ => chkL ρ i >>= fun _ => ca ρ >>= fun w => Gd.asI w >>= fun k => modL ρ i (popK k)) := by
  refine pe_methD (km := fun ρ w => Gd.asI w >>= fun k => modL ρ i (popK k)) hN hv hd hcd PySem.F.slot_list_pop PySem.F.type_list_pop mt_popAt F ha (fun ρ w => NX.bind (NX.asI w) fun _ => NX.modL _ _ _) fun ρ l a v w H1 j1 st1 Z Q e1 e4 r1 w1 h1 => ?_
  rw [rwp_bind] at h1
  cases w with
  | d d =>
    cases d with
    | int k =>
      cases w1
      have h1 : RWp (modL ρ i (popK k) st1) (OkW X.K X.mg nm H1 j1 st1 Z Q) := h1
      obtain ⟨xs, w', ys, e2, e3, q⟩ := modL_out e1 h1
      unfold popK at e3
      split at e3
      · rename_i y ey
        cases e3
        split at ey
        · rename_i hk
          obtain ⟨us, hu, hd⟩ := r1.cell l a _ e4 e2
          obtain ⟨u, hu1, hu2⟩ := hd.get ey
          obtain ⟨r3, k3, lz⟩ := r1.writeL e4 e2 hu (hd.eraseIdx k.toNat)
          have lt : k.toNat < us.length := (List.getElem?_eq_some_iff.mp hu1).1
          refine ⟨a, us, k, k.toNat, u, rfl, rfl, hu, by omega, by omega, ?_, hu1, q u _ j1 r3 (k3.dr hu2) k3⟩
          have hs := ixN_seq (n := us.length) (i := k) (j := k.toNat) (by
            unfold ixN
            rw [if_pos hk.1, if_pos (by omega)])
          exact hs.1
        · cases ey
      · cases e3
    | _ => exact h1.elim
  | r l => exact h1.elim
  | f n => exact h1.elim
  | s ns => exact h1.elim
end
end Gd
namespace Gd
open PySem PySem.Spec L2
structure FnG (P : Program) (w : World) (K : PySem.W.Frag) (mg : Str → Option Value) (base : Heap) (CX : CXT) (k : Nat) (f : Addr) (fd : FuncData) (ps : List Str) (sp : Sp) : Prop where
  len : ∀ vs H Q E, sp vs H Q E → vs.length = ps.length
  run : ∀ (A : Around) (outer : List Env) (s : Shared) (H : Hp) (args : Args) (us : List Value) (vs : List V) (Q : VK) (E : XK), Room k A → A.guards = some [] → Env0 P w K mg base A outer s H → BindsTo s fd args (ps.zip us) → Vals vs us → sp vs H Q E →
    codeAny (model P w) A (.call (.ref f) args) (CR CX outer P w H s Q E) s
theorem FnG.mono {P : Program} {w : World} {K : PySem.W.Frag} {mg : Str → Option Value} {base : Heap} {CX : CXT} {j k : Nat} {f : Addr} {fd : FuncData} {ps : List Str} {sp : Sp} (F : FnG P w K mg base CX j f fd ps sp) (h : j ≤ k) : FnG P w K mg base CX k f fd ps sp :=
  ⟨F.len, fun A outer s H args us vs Q E hr => F.run A outer s H args us vs Q E (hr.mono h)⟩
structure Sg where
  nm : Nat → Str
  cl : Nat → Value × Str
  ps : Nat → List Str
def spF (K : PySem.W.Frag) (mg : Str → Option Value) (G : Sg) (run : Nat → List W → M W) (f : Nat) : Sp := fun vs H Q E => ∃ ws st j Z, Rel K H j st Z ∧ WrL K mg G.nm H j st Z vs ws ∧ ws.length = (G.ps f).length ∧ RWx (run f ws st) (OkW K mg G.nm H j st Z Q) (OkX K G.cl H j st Z E)
structure Defs (P : Program) (w : World) (K : PySem.W.Frag) (mg : Str → Option Value) (base : Heap) (CX : CXT) (k : Nat) (G : Sg) (run : Nat → List W → M W) (has : Nat → Bool) : Prop where
  no : ∀ f, has f = false → mg (G.nm f) = none
  len : ∀ f ws st, ws.length ≠ (G.ps f).length → run f ws st = .bad
  at_ : ∀ f, has f = true → ∃ a fd, mg (G.nm f) = some (.ref a) ∧ FnG P w K mg base CX k a fd (G.ps f) (spF K mg G run f) ∧ PySem.W.keepIn K (.ref a) = true ∧ fd.defaults = .none ∧ plainP fd.params = true ∧ parOf fd.params = G.ps f ∧ ∃ (oc : Value) (od : Option Addr) (osl : Array (Option Value)), K.lookup a = some ⟨oc, od, .func fd, osl⟩
section
variable {X : Cx} {CX : CXT} {k : Nat} {f : Addr} {fd : FuncData} {ps : List Str} {sp : Sp} {E : XK}
theorem run_fnG {pins : List (Addr × Obj)} {σ : St} {H : Hp} {s : Shared} {Q : VK} {args : List Value} {kw : List (Str × Value)} {us : List Value} {vs : List V} (F : FnG X.prog X.w X.K X.mg X.base CX k f fd ps sp) (hr : Room k X.A) (hg : X.A.guards = some []) (hx : Passes CX X E)
    (I : Inv X pins σ H s) (hb : BindsTo s fd ⟨args, kw⟩ (ps.zip us)) (r : Vals vs us) (h : sp vs H Q E) : wpAny (model X.prog X.w) X.A (call (.ref f) args kw) (EP X pins σ Q) X.xe s := by
  refine wpAny_call (codeAny_mono (F.run X.A X.stack s H ⟨args, kw⟩ us vs Q E hr hg I.env0 hb r h) fun r s' hq => ?_)
  match r, hq with
  | .error e, hq => exact hx pins σ H s e s' I hq
  | .ok (.ret u), hq => exact I.after hq
  | .ok .next, hq => exact False.elim hq
  | .ok .brk, hq => exact False.elim hq
  | .ok .cont, hq => exact False.elim hq
variable {G : Sg} {run : Nat → List W → M W} {has : Nat → Bool} {cr : Rho → M (List W)} {e : Expr} {es : List Expr} {p pos : Pos} {g : Nat}
theorem Defs.go {pins : List (Addr × Obj)} {σ : St} {H : Hp} {s : Shared} {Q : VK} {a : Addr} {us ws : List Value} {ks : List Str} {vs : List V} {wv : List W} {st : Sto} {j : List Addr} {Z : Addr → Prop} (D : Defs X.prog X.w X.K X.mg X.base CX k G run has) (hf : has g = true) (hr : Room k X.A) (hg : X.A.guards = some []) (hx : Passes CX X E)
    (ha : X.mg (G.nm g) = some (.ref a)) (I : Inv X pins σ H s) (hb : bindsOkB (G.ps g) us.length ks = true) (hw : ws.length = ks.length) (r : Vals vs (us ++ ws)) (rl : Rel X.K H j st Z) (wr : WrL X.K X.mg G.nm H j st Z vs wv)
    (h : RWx (run g ((placesOf (G.ps g) us.length ks).map fun i => wv.getD i (.d .none)) st) (OkW X.K X.mg G.nm H j st Z Q) (OkX X.K G.cl H j st Z E)) : wpAny (model X.prog X.w) X.A (call (.ref a) us (ks.zip ws)) (EP X pins σ Q) X.xe s := by
  obtain ⟨a', fd, h1, F, _, h2, h3, h4, _⟩ := D.at_ g hf
  rw [ha] at h1
  cases h1
  have hbind := binds_gen h3 h2 (by rw [h4]; exact hb) hw s
  rw [h4] at hbind
  have lu : (us ++ ws).length = vs.length := r.length.symm
  have lw : vs.length = wv.length := wr.length
  have lt : ∀ i ∈ placesOf (G.ps g) us.length ks, i < vs.length := fun i hi => by
    unfold placesOf at hi
    obtain ⟨n, hn, rfl⟩ := List.mem_map.mp hi
    unfold bindsOkB at hb
    simp only [Bool.and_eq_true, decide_eq_true_eq, List.all_eq_true] at hb
    have q := List.idxOf_lt_length_of_mem (hb.1.2 n hn)
    rw [List.length_append, List.length_take] at q
    rw [← lu, List.length_append, hw]
    omega
  have vv : Vals ((placesOf (G.ps g) us.length ks).map fun i => vs.getD i .non) ((placesOf (G.ps g) us.length ks).map fun i => (us ++ ws).getD i .none) := by
    generalize placesOf (G.ps g) us.length ks = l at lt
    induction l with
    | nil => exact .nil
    | cons i l ih =>
      refine .cons ?_ (ih fun i hi => lt i (List.mem_cons_of_mem _ hi))
      have hi := lt i List.mem_cons_self
      obtain ⟨u, e1, e2⟩ := r.get (List.getElem?_eq_getElem hi)
      simp only [List.getD_eq_getElem?_getD, List.getElem?_eq_getElem hi, e1, Option.getD_some]
      exact e2
  have ww : WrL X.K X.mg G.nm H j st Z ((placesOf (G.ps g) us.length ks).map fun i => vs.getD i .non) ((placesOf (G.ps g) us.length ks).map fun i => wv.getD i (.d .none)) := by
    generalize placesOf (G.ps g) us.length ks = l at lt
    induction l with
    | nil => exact .nil
    | cons i l ih =>
      refine .cons ?_ (ih fun i hi => lt i (List.mem_cons_of_mem _ hi))
      have hi := lt i List.mem_cons_self
      have get : ∀ {vs : List V} {wv : List W} {i : Nat}, WrL X.K X.mg G.nm H j st Z vs wv → i < vs.length → Wr X.K X.mg G.nm H j st Z (vs.getD i .non) (wv.getD i (.d .none)) := by
        intro vs wv i w
        induction w generalizing i with
        | nil => intro h; simp at h
        | cons h t ih =>
          intro hi
          cases i with
          | zero => simpa using h
          | succ i => simpa using ih (i := i) (by simpa using hi)
      exact get wr hi
  exact run_fnG F hr hg hx I hbind vv ⟨_, st, j, Z, rl, ww, by unfold placesOf; rw [List.length_map, List.length_map], h⟩
theorem places_all {ns : List Str} (h : ns.Nodup) : placesOf ns ns.length [] = List.range ns.length := by
  unfold placesOf
  rw [List.append_nil, List.take_length]
  refine List.ext_getElem (by simp) fun i h1 h2 => ?_
  rw [List.getElem_map, List.getElem_range]
  exact List.Nodup.idxOf_getElem h i _
theorem getD_all {α : Type} (l : List α) (d : α) : (List.range l.length).map (fun i => l.getD i d) = l := by
  refine List.ext_getElem (by simp) fun i h1 h2 => ?_
  rw [List.getElem_map, List.getElem_range, List.getD_eq_getElem?_getD, List.getElem?_eq_getElem h2]
  rfl
theorem binds_all {ns : List Str} (h : ns.Nodup) : bindsOkB ns ns.length [] = true := by
  unfold bindsOkB
  simp only [List.append_nil, List.take_length, List.all_nil, Bool.and_true, Bool.and_eq_true, decide_eq_true_eq, List.all_eq_true]
  exact ⟨⟨Nat.le_refl _, h⟩, fun n hn => hn⟩
theorem Defs.nd (D : Defs X.prog X.w X.K X.mg X.base CX k G run has) (hf : has g = true) : (G.ps g).Nodup := by
  obtain ⟨_, fd, _, _, _, _, h, e, _⟩ := D.at_ g hf
  unfold plainP at h
  simp only [Bool.and_eq_true, decide_eq_true_eq] at h
  rw [← e]
  exact h.2
def Len (cr : Rho → M (List W)) (n : Nat) : Prop := ∀ ρ s ws s', cr ρ s = .ok ws s' → ws.length = n
theorem Len.rwx {n : Nat} (h : Len cr n) {ρ : Rho} {s : Sto} {P : List W → Sto → Prop} {XX : Nat → PyData → Sto → Prop} (q : RWx (cr ρ s) P XX) : RWx (cr ρ s) (fun ws s' => ws.length = n ∧ P ws s') XX := by
  cases e : cr ρ s with
  | ok ws s' => rw [e] at q; exact ⟨h _ _ _ _ e, q⟩
  | exc c d s' => rw [e] at q; exact q
  | bad => rw [e] at q; exact q
theorem Len.nil : Len (fun _ => M.pure []) 0 := fun ρ s ws s' e => by cases e; rfl
theorem Len.cons {ca : Rho → M W} {n : Nat} (h : Len cr n) : Len (fun ρ => ca ρ >>= fun x => cr ρ >>= fun xs => M.pure (x :: xs)) (n + 1) := fun ρ s ws s' e => by
  have e : M.bind (ca ρ) (fun x => M.bind (cr ρ) fun xs => M.pure (x :: xs)) s = .ok ws s' := e
  unfold M.bind at e
  cases e1 : ca ρ s with
  | ok x s1 =>
    rw [e1] at e
    dsimp only at e
    cases e2 : cr ρ s1 with
    | ok xs s2 =>
      rw [e2] at e
      cases e
      rw [List.length_cons, h _ _ _ _ e2]
    | exc c d s2 => rw [e2] at e; cases e
    | bad => rw [e2] at e; cases e
  | exc c d s1 => rw [e1] at e; cases e
  | bad => rw [e1] at e; cases e
def Want (X : Cx) (G : Sg) (E : XK) (run : Nat → List W → M W) (g : Nat) (Z : Addr → Prop) (Q : VK) (ks : List Str) (m : Nat) : List V → List V → Hp → Prop := fun vs zs H1 => ∃ ws wz st1 j1, Rel X.K H1 j1 st1 Z ∧ WrL X.K X.mg G.nm H1 j1 st1 Z vs ws ∧ WrL X.K X.mg G.nm H1 j1 st1 Z zs wz ∧ ws.length = m ∧ wz.length = ks.length ∧
  RWx (run g ((placesOf (G.ps g) m ks).map fun i => (ws ++ wz).getD i (.d .none)) st1) (OkW X.K X.mg G.nm H1 j1 st1 Z Q) (OkX X.K G.cl H1 j1 st1 Z E)
theorem Defs.want {pins : List (Addr × Obj)} {σ : St} {H1 : Hp} {s1 : Shared} {Q : VK} {a : Addr} {us uz : List Value} {ks : List Str} {m : Nat} {vs zs : List V} {Z : Addr → Prop} (D : Defs X.prog X.w X.K X.mg X.base CX k G run has) (hf : has g = true) (hr : Room k X.A) (hgd : X.A.guards = some []) (hx : Passes CX X E)
    (hm : X.mg (G.nm g) = some (.ref a)) (I1 : Inv X pins σ H1 s1) (hb : bindsOkB (G.ps g) m ks = true) (r : Vals vs us) (rz : Vals zs uz) (q : Want X G E run g Z Q ks m vs zs H1) : wpAny (model X.prog X.w) X.A (call (.ref a) us (ks.zip uz)) (EP X pins σ Q) X.xe s1 := by
  obtain ⟨ws, wz, st1, j1, r1, w1, w2, l1, l2, q⟩ := q
  have app : ∀ {vs zs : List V} {ws wz : List W}, WrL X.K X.mg G.nm H1 j1 st1 Z vs ws → WrL X.K X.mg G.nm H1 j1 st1 Z zs wz → WrL X.K X.mg G.nm H1 j1 st1 Z (vs ++ zs) (ws ++ wz) := by
    intro vs zs ws wz a b
    induction a with
    | nil => exact b
    | cons h t ih => exact .cons h ih
  have lu : us.length = m := by rw [← r.length, w1.length, l1]
  refine Defs.go (ks := ks) (us := us) (ws := uz) (wv := ws ++ wz) D hf hr hgd hx hm I1 (by rw [lu]; exact hb) (by rw [← rz.length, w2.length, l2]) (r.append rz) r1 (app w1 w2) ?_
  rw [lu]
  exact q
theorem want_all {ws : List W} (nd : (G.ps g).Nodup) (h : ws.length = (G.ps g).length) : ((placesOf (G.ps g) (G.ps g).length []).map fun i => (ws ++ []).getD i (.d .none)) = ws := by
  rw [places_all nd, List.append_nil, ← h, getD_all]
theorem pe_callD (D : Defs X.prog X.w X.K X.mg X.base CX k G run has) (hf : has g = true) (hr : Room k X.A) (hgd : X.A.guards = some []) (hx : Passes CX X E) (hg : Gl X (G.nm g)) (hdb : (G.nm g == ("__debug__" : Str)) = false) (ha : PA X (e :: es) (TAr (cf X G.nm G.cl E) cr)) (hl : Len cr (G.ps g).length)
    (h1 : starEach (e :: es) X.env = (false, eval e X.env) :: starEach es X.env) (h2 : (backTo pos (starEach es X.env)).any (·.1) = false) : PE X (.Call (.Name (G.nm g) p) (e :: es) [] pos) (T (cf X G.nm G.cl E) fun ρ => cr ρ >>= run g) := by
  obtain ⟨a, fd, hm, _, hk, _⟩ := D.at_ g hf
  refine ⟨fun pins s σ H Q I h => ?_⟩
  obtain ⟨ρ, st, j, Z, rel, sl, h⟩ := h
  rw [rwx_bind] at h
  have nd := D.nd hf
  have hta : TAr (cf X G.nm G.cl E) cr σ H fun vs H1 => Want X G E run g Z Q [] (G.ps g).length vs [] H1 :=
    ⟨ρ, st, j, Z, rel, sl, (hl.rwx h).mono (fun ws s1 q vs H1 j1 r1 w1 k1 => ⟨ws, [], s1, j1, r1, w1, .nil, q.1, rfl, by
      rw [want_all nd q.1]
      exact q.2.mono (fun a s q => OkW.weak q k1) fun c d s q => OkX.weak q k1⟩) fun c d s h => h⟩
  refine wpAny_Call_Name_kw (ld_glob I hg hm ?_ hdb)
  exact PySem.W.callWith_K (h₀ := X.base) I.ok.mod.kin hk (thn (ha.run pos pins s σ H _ I hta) fun us s1 ⟨vs, H1, I1, r, q⟩ => ⟨I1.kIn, Defs.want (ks := []) (uz := []) D hf hr hgd hx hm I1 (binds_all nd) r .nil q⟩) h1 h2
theorem pe_call0D (D : Defs X.prog X.w X.K X.mg X.base CX k G run has) (hf : has g = true) (hr : Room k X.A) (hgd : X.A.guards = some []) (hx : Passes CX X E) (hg : Gl X (G.nm g)) (hdb : (G.nm g == ("__debug__" : Str)) = false) (h0 : G.ps g = []) :
    PE X (.Call (.Name (G.nm g) p) [] [] pos) (T (cf X G.nm G.cl E) fun _ => M.pure [] >>= run g) := by
  obtain ⟨a, fd, hm, _, hk, _⟩ := D.at_ g hf
  refine ⟨fun pins s σ H Q I h => ?_⟩
  obtain ⟨ρ, st, j, Z, rel, sl, h⟩ := h
  refine wpAny_Call_Name_kw (ld_glob I hg hm ?_ hdb)
  have nd := D.nd hf
  refine PySem.W.callWith_K0 I.kIn hk (Defs.want (ks := []) (us := []) (uz := []) (vs := []) (zs := []) (m := 0) D hf hr hgd hx hm I ?_ .nil .nil ⟨[], [], st, j, rel, .nil, .nil, rfl, rfl, ?_⟩)
  · rw [h0]; rfl
  · rw [h0]
    exact h
theorem pe_callKD {kws : List Keyword} {ck : Rho → M (List W)} {ks : List Str} {m : Nat} (D : Defs X.prog X.w X.K X.mg X.base CX k G run has) (hf : has g = true) (hr : Room k X.A) (hgd : X.A.guards = some []) (hx : Passes CX X E) (hg : Gl X (G.nm g)) (hdb : (G.nm g == ("__debug__" : Str)) = false)
    (ha : PA X (e :: es) (TAr (cf X G.nm G.cl E) cr)) (hk2 : PK X kws (TAr (cf X G.nm G.cl E) ck)) (hl : Len cr m) (hl2 : Len ck ks.length) (hb : bindsOkB (G.ps g) m ks = true)
    (hall : (backToKw pos (keywordEach kws X.env)).all (·.1.isSome) = true) (hks : (backToKw pos (keywordEach kws X.env)).filterMap (·.1) = ks)
    (he : starEach (e :: es) X.env = (false, eval e X.env) :: starEach es X.env) (hpl : ((backTo pos (starEach (e :: es) X.env)).any (·.1) || (backToKw pos (keywordEach kws X.env)).any (·.1.isNone)) = false) :
    PE X (.Call (.Name (G.nm g) p) (e :: es) kws pos) (T (cf X G.nm G.cl E) fun ρ => cr ρ >>= fun ws => ck ρ >>= fun zs => run g ((placesOf (G.ps g) m ks).map fun i => (ws ++ zs).getD i (.d .none))) := by
  obtain ⟨a, fd, hm, _, hk, _⟩ := D.at_ g hf
  refine ⟨fun pins s σ H Q I h => ?_⟩
  obtain ⟨ρ, st, j, Z, rel, sl, h⟩ := h
  rw [rwx_bind] at h
  have hta : TAr (cf X G.nm G.cl E) cr σ H fun vs H1 => TAr (cf X G.nm G.cl E) ck σ H1 fun zs H2 => Want X G E run g Z Q ks m vs zs H2 :=
    ⟨ρ, st, j, Z, rel, sl, (hl.rwx h).mono (fun ws s1 ⟨l1, q⟩ vs H1 j1 r1 w1 k1 => ⟨ρ, s1, j1, Z, r1, k1.slots sl, by
      rw [rwx_bind] at q
      exact (hl2.rwx q).mono (fun zs s2 ⟨l2, q⟩ vz H2 j2 r2 w2 k2 => ⟨ws, zs, s2, j2, r2, k2.wrL w1, w2, l1, l2, q.mono (fun a s q => OkW.weak q (k1.trans k2)) fun c d s q => OkX.weak q (k1.trans k2)⟩) fun c d s h => OkX.weak h k1⟩) fun c d s h => h⟩
  refine wpAny_Call_Name_kw (ld_glob I hg hm ?_ hdb)
  refine PySem.W.callWith_KW (h₀ := X.base) I.ok.mod.kin hk hall (thn (ha.run pos pins s σ H _ I hta) fun us s1 ⟨vs, H1, I1, r, q⟩ => ?_) hpl he
  refine thn (hk2.run pos pins s1 σ H1 _ I1 q) fun uz s2 ⟨zs, H2, I2, rz, q2⟩ => ⟨I2.kIn, ?_⟩
  rw [hks]
  exact Defs.want D hf hr hgd hx hm I2 hb r rz q2
theorem pe_callK0D {kws : List Keyword} {ck : Rho → M (List W)} {ks : List Str} (D : Defs X.prog X.w X.K X.mg X.base CX k G run has) (hf : has g = true) (hr : Room k X.A) (hgd : X.A.guards = some []) (hx : Passes CX X E) (hg : Gl X (G.nm g)) (hdb : (G.nm g == ("__debug__" : Str)) = false)
    (hk2 : PK X kws (TAr (cf X G.nm G.cl E) ck)) (hl2 : Len ck ks.length) (hb : bindsOkB (G.ps g) 0 ks = true)
    (hall : (backToKw pos (keywordEach kws X.env)).all (·.1.isSome) = true) (hks : (backToKw pos (keywordEach kws X.env)).filterMap (·.1) = ks)
    (hpl : ((backTo pos (starEach [] X.env)).any (·.1) || (backToKw pos (keywordEach kws X.env)).any (·.1.isNone)) = false) :
    PE X (.Call (.Name (G.nm g) p) [] kws pos) (T (cf X G.nm G.cl E) fun ρ => M.pure [] >>= fun ws => ck ρ >>= fun zs => run g ((placesOf (G.ps g) 0 ks).map fun i => (ws ++ zs).getD i (.d .none))) := by
  obtain ⟨a, fd, hm, _, hk, _⟩ := D.at_ g hf
  refine ⟨fun pins s σ H Q I h => ?_⟩
  obtain ⟨ρ, st, j, Z, rel, sl, h⟩ := h
  have h : RWx ((ck ρ >>= fun zs => run g ((placesOf (G.ps g) 0 ks).map fun i => ([] ++ zs).getD i (.d .none))) st) (OkW X.K X.mg G.nm H j st Z Q) (OkX X.K G.cl H j st Z E) := h
  rw [rwx_bind] at h
  have hta : TAr (cf X G.nm G.cl E) ck σ H fun zs H2 => Want X G E run g Z Q ks 0 [] zs H2 :=
    ⟨ρ, st, j, Z, rel, sl, (hl2.rwx h).mono (fun zs s2 ⟨l2, q⟩ vz H2 j2 r2 w2 k2 => ⟨[], zs, s2, j2, r2, .nil, w2, rfl, l2, q.mono (fun a s q => OkW.weak q k2) fun c d s q => OkX.weak q k2⟩) fun c d s h => h⟩
  refine wpAny_Call_Name_kw (ld_glob I hg hm ?_ hdb)
  refine PySem.W.callWith_KW0 (h₀ := X.base) I.ok.mod.kin hk hall ?_ hpl
  refine thn (hk2.run pos pins s σ H _ I hta) fun uz s2 ⟨zs, H2, I2, rz, q2⟩ => ⟨I2.kIn, ?_⟩
  rw [hks]
  exact Defs.want (us := []) (vs := []) D hf hr hgd hx hm I2 hb .nil rz q2
theorem pe_callvD {i : Nat} {x : Str} (D : Defs X.prog X.w X.K X.mg X.base CX k G run has) (hr : Room k X.A) (hgd : X.A.guards = some []) (hx : Passes CX X E) (hN : X.N[i]? = some x) (hv : Vis X.env.scope x) (hdb : (x == ("__debug__" : Str)) = false) (hcd : (x == ("__classdict__" : Str)) = false)
    (ha : PA X (e :: es) (TAr (cf X G.nm G.cl E) cr)) (h1 : starEach (e :: es) X.env = (false, eval e X.env) :: starEach es X.env) (h2 : (backTo pos (starEach es X.env)).any (·.1) = false) :
    PE X (.Call (.Name x p) (e :: es) [] pos) (T (cf X G.nm G.cl E) fun ρ => slotF ρ i >>= fun f => cr ρ >>= fun ws => run f ws) := by
  refine ⟨fun pins s σ H Q I h => ?_⟩
  obtain ⟨ρ, st, j, Z, rel, sl, h⟩ := h
  have sf : ∃ g, ρ[i]? = some (some (.f g)) ∧ RWx ((cr ρ >>= fun ws => run g ws) st) (OkW X.K X.mg G.nm H j st Z Q) (OkX X.K G.cl H j st Z E) := by
    rw [rwx_bind] at h
    unfold slotF at h
    cases e0 : ρ[i]? with
    | none => rw [e0] at h; exact h.elim
    | some o =>
      cases o with
      | none => rw [e0] at h; exact h.elim
      | some w =>
        rw [e0] at h
        cases w with
        | f g => exact ⟨g, rfl, h⟩
        | d d => exact h.elim
        | r l => exact h.elim
        | s ns => exact h.elim
  obtain ⟨g, e0, h⟩ := sf
  obtain ⟨v0, e1, a, rfl, hm⟩ := sl.at_ i _ e0
  have hf : has g = true := by
    cases q : has g with
    | true => rfl
    | false =>
      have z := D.no g q
      rw [show X.mg (G.nm g) = some (.ref a) from hm] at z
      cases z
  obtain ⟨a', fd, hm', _, hk, _⟩ := D.at_ g hf
  obtain rfl : a = a' := by
    have := hm.symm.trans hm'
    cases this
    rfl
  have nd := D.nd hf
  rw [rwx_bind] at h
  have hta : TAr (cf X G.nm G.cl E) cr σ H fun vs H1 => Want X G E run g Z Q [] (G.ps g).length vs [] H1 :=
    ⟨ρ, st, j, Z, rel, sl, h.mono (fun ws s1 q vs H1 j1 r1 w1 k1 => by
      have lw : ws.length = (G.ps g).length := by
        by_cases z : ws.length = (G.ps g).length
        · exact z
        · rw [D.len g ws s1 z] at q
          exact q.elim
      exact ⟨ws, [], s1, j1, r1, w1, .nil, lw, rfl, by
        rw [want_all nd lw]
        exact q.mono (fun a s q => OkW.weak q k1) fun c d s q => OkX.weak q k1⟩) fun c d s h => h⟩
  refine wpAny_Call_Name_kw (thn ((pe_var (pos := p) hN hv hdb hcd).run pins s σ H (fun v H1 => v = .ref a ∧ H1 = H) I ⟨.ref a, e1, rfl, rfl⟩) fun u s1 ⟨v, H1, I1, r1, q1⟩ => ?_)
  obtain ⟨rfl, rfl⟩ := q1
  cases r1
  exact PySem.W.callWith_K (h₀ := X.base) I.ok.mod.kin hk (thn (ha.run pos pins s1 σ _ _ I1 hta) fun us s2 ⟨vs, H2, I2, r, q⟩ => ⟨I2.kIn, Defs.want (ks := []) (uz := []) D hf hr hgd hx hm I2 (binds_all nd) r .nil q⟩) h1 h2
end
end Gd
namespace Gd
open PySem PySem.Spec L2
theorem pg_imp {X : Cx} {e : Expr} {t t' : TG} (h : PG X e t) (f : ∀ v σ H Q, t' v σ H Q → t v σ H Q) : PG X e t' := ⟨fun pins s σ H v u Q I r q => h.run pins s σ H v u Q I r (f v σ H Q q)⟩
theorem pgs_imp {X : Cx} {e : List Expr} {t t' : TGs} (h : PGs X e t) (f : ∀ v σ H Q, t' v σ H Q → t v σ H Q) : PGs X e t' := ⟨fun pins s σ H v u Q I r q => h.run pins s σ H v u Q I r (f v σ H Q q)⟩
def Tk (K : PySem.W.Frag) (mg : Str → Option Value) (nm : Nat → Str) (H : Hp) (j : List Addr) (st : Sto) (Z : Addr → Prop) (tp : Bool) (v : V) (w : W) : Prop :=
  Wr K mg nm H j st Z v w ∨ (tp = true ∧ ∃ a xs ds, v = .ref a ∧ w = .d (.tuple ds) ∧ SqT K H a xs ∧ DrL K H (Lz j st Z) xs ds)
def Agr (ws : List Nat) (σ σ' : L2.St) : Prop := σ'.length = σ.length ∧ ∀ i, i ∉ ws → σ'[i]? = σ[i]?
theorem Agr.refl {ws : List Nat} {σ : L2.St} : Agr ws σ σ := ⟨rfl, fun _ _ => rfl⟩
theorem Agr.trans {ws : List Nat} {σ σ1 σ2 : L2.St} (a : Agr ws σ σ1) (b : Agr ws σ1 σ2) : Agr ws σ σ2 := ⟨b.1.trans a.1, fun i h => (b.2 i h).trans (a.2 i h)⟩
theorem Agr.sub {ws us : List Nat} {σ σ' : L2.St} (a : Agr ws σ σ') (h : ∀ i ∈ ws, i ∈ us) : Agr us σ σ' := ⟨a.1, fun i n => a.2 i fun z => n (h i z)⟩
def OkT (K : PySem.W.Frag) (mg : Str → Option Value) (nm : Nat → Str) (ws : List Nat) (σ : L2.St) (H : Hp) (j : List Addr) (st : Sto) (Z : Addr → Prop) (Q : L2.St → Hp → Prop) : Rho → Sto → Prop := fun ρ' st' =>
  ∀ σ' H' j', Agr ws σ σ' → Rel K H' j' st' Z → Slots K mg nm H' j' st' Z σ' ρ' → Keep H j st H' j' st' → Q σ' H'
def TGd (C : Cf) (tp : Bool) (ws : List Nat) (ct : W → Rho → M Rho) : TG := fun v σ H Q => ∃ w ρ st j Z, Rel C.K H j st Z ∧ Slots C.K C.mg C.nm H j st Z σ ρ ∧ Tk C.K C.mg C.nm H j st Z tp v w ∧ RWx (ct w ρ st) (OkT C.K C.mg C.nm ws σ H j st Z Q) (OkX C.K C.cl H j st Z C.E)
def TGsd (C : Cf) (ws : List Nat) (ct : List PyData → Rho → M Rho) : TGs := fun vs σ H Q => ∃ ds ρ st j Z, Rel C.K H j st Z ∧ Slots C.K C.mg C.nm H j st Z σ ρ ∧ DrL C.K H (Lz j st Z) vs ds ∧ RWx (ct ds ρ st) (OkT C.K C.mg C.nm ws σ H j st Z Q) (OkX C.K C.cl H j st Z C.E)
section
variable {X : Cx} {nm : Nat → Str} {cl : Nat → Value × Str} {E : XK} {ca : Rho → M W} {e : Expr} {es : List Expr} {p pos : Pos} {i : Nat} {x : Str} {tp : Bool}
theorem OkT.weak {K : PySem.W.Frag} {mg : Str → Option Value} {nm : Nat → Str} {H H' : Hp} {j j' : List Addr} {st st' : Sto} {Z : Addr → Prop} {Q : L2.St → Hp → Prop} {ρ' : Rho} {s2 : Sto} {ws : List Nat} {σ : L2.St} (h : OkT K mg nm ws σ H j st Z Q ρ' s2) (k : Keep H j st H' j' st') : OkT K mg nm ws σ H' j' st' Z Q ρ' s2 :=
  fun σ2 H2 j2 g a b c => h σ2 H2 j2 g a b (k.trans c)
theorem pg_nmD (hN : X.N.Nodup) (hi : X.N[i]? = some x) (hx : Loc X.env.scope x) (hf : X.fn x = true ∨ X.env.scope.names.lookup x = some .local) : PG X (.Name x pos) (TGd (cf X nm cl E) false [i] fun w ρ => M.pure (ρ.set i (some w))) :=
  pg_imp (pg_name hN hi hx hf) fun v σ H Q h => by
    obtain ⟨w, ρ, st, j, Z, rel, sl, tk, h⟩ := h
    rcases tk with tk | ⟨z, _⟩
    · exact h _ H j ⟨by rw [List.length_set], fun k hk => List.getElem?_set_ne (fun z => hk (by rw [z]; exact List.mem_singleton.mpr rfl))⟩ rel (sl.set i tk) Keep.refl
    · cases z
theorem pgs_nilD : PGs X [] (TGsd (cf X nm cl E) [] fun ds ρ => match ds with
    | [] => M.pure ρ
    | _ :: _ => M.bad) := pgs_imp pgs_nil fun vs σ H Q h => by
  obtain ⟨ds, ρ, st, j, Z, rel, sl, d, h⟩ := h
  cases d with
  | nil => exact ⟨rfl, h σ H j Agr.refl rel sl Keep.refl⟩
  | cons _ _ => exact h.elim
theorem pgs_consD {w1 w2 : List Nat} {ct : W → Rho → M Rho} {cs : List PyData → Rho → M Rho} (h1 : PG X e (TGd (cf X nm cl E) tp w1 ct)) (h2 : PGs X es (TGsd (cf X nm cl E) w2 cs)) (hs : (assignEach (e :: es) X.env).map (·.2) = assign e X.env :: (assignEach es X.env).map (·.2)) :
    PGs X (e :: es) (TGsd (cf X nm cl E) (w1 ++ w2) fun ds ρ => match ds with
    | d :: r => ct (.d d) ρ >>= fun ρ1 => cs r ρ1
    | [] => M.bad) := pgs_imp (pgs_cons h1 h2 hs) fun vs σ H Q h => by
  obtain ⟨ds, ρ, st, j, Z, rel, sl, d, h⟩ := h
  cases d with
  | nil => exact h.elim
  | @cons v vs d ds hd ht =>
    have h : RWx ((ct (.d d) ρ >>= fun ρ1 => cs ds ρ1) st) _ _ := h
    rw [rwx_bind] at h
    refine ⟨v, vs, rfl, .d d, ρ, st, j, Z, rel, sl, .inl hd, h.mono (fun ρ1 s1 q σ1 H1 j1 g1 r1 sl1 k1 => ?_) fun c d s h => h⟩
    exact ⟨ds, ρ1, s1, j1, Z, r1, sl1, k1.drL ht, q.mono (fun a s q σ2 H2 j2 g2 a b c => q σ2 H2 j2 ((g1.sub fun i h => List.mem_append_left _ h).trans (g2.sub fun i h => List.mem_append_right _ h)) a b (k1.trans c)) fun c d s q => OkX.weak q k1⟩
theorem DrL.sqlen {K : PySem.W.Frag} {H : Hp} {L : Addr → Prop} {vs : List V} {ds : List PyData} (h : DrL K H L vs ds) : vs.length = ds.length := h.length
theorem pg_tpD {ws : List Nat} {cs : List PyData → Rho → M Rho} {n k : Nat} (hc : X.calm = true) (h : PGs X es (TGsd (cf X nm cl E) ws cs)) (hn : (assignEach es X.env).length = n) (hst : (assignEach es X.env).findIdx? (·.1) = none) :
    PG X (.Tuple es k pos) (TGd (cf X nm cl E) true ws fun w ρ => match w with
      | .d (.tuple ds) => if ds.length = n then cs ds ρ else M.bad
      | _ => M.bad) := pg_imp (pg_tup hc h hn hst) fun v σ H Q h => by
  obtain ⟨w, ρ, st, j, Z, rel, sl, tk, h⟩ := h
  have ex : ∃ a xs ds, v = .ref a ∧ w = .d (.tuple ds) ∧ SqT X.K H a xs ∧ DrL X.K H (Lz j st Z) xs ds := by
    rcases tk with tk | ⟨_, a, xs, ds, e1, e2, e3, e4⟩
    · cases w with
      | d d =>
        cases d with
        | tuple ds =>
          obtain ⟨a, xs, rfl, h1, g⟩ := Dr.tup_inv tk
          exact ⟨a, xs, ds, rfl, rfl, h1.sqt, g⟩
        | _ => exact h.elim
      | r l => exact h.elim
      | f n => exact h.elim
      | s ns => exact h.elim
    · exact ⟨a, xs, ds, e1, e2, e3, e4⟩
  obtain ⟨a, xs, ds, rfl, rfl, h1, g⟩ := ex
  have h : RWx ((if ds.length = n then cs ds ρ else M.bad) st) _ _ := h
  by_cases hd : ds.length = n
  · rw [if_pos hd] at h
    exact ⟨a, xs, rfl, h1, by rw [g.length]; exact hd, ds, ρ, st, j, Z, rel, sl, g, h⟩
  · rw [if_neg hd] at h
    exact h.elim
theorem pg_subD {p2 : Pos} (hN : X.N[i]? = some x) (hv : Vis X.env.scope x) (hd : (x == ("__debug__" : Str)) = false) (hcd : (x == ("__classdict__" : Str)) = false) (ha : PE X e (T (cf X nm cl E) ca))
    (has : ∀ v, assign (.Subscript (.Name x p) e pos) X.env v = (do
      let ov ← holding [v] (eval (.Name x p) X.env)
      let iv ← holding [v, ov] (eval e X.env)
      standAt pos
      holding [v, ov, iv] (setItem ov iv v)
      release [v, ov, iv] [])) :
    PG X (.Subscript (.Name x p) e pos) (TGd (cf X nm cl E) false [] fun w ρ => fzW w >>= fun y => chkL ρ i >>= fun _ => ca ρ >>= fun z => Gd.asI z >>= fun k => modL ρ i (setK k y) >>= fun _ => M.pure ρ) := pg_imp (pg_sub (pe_var hN hv hd hcd) ha set_list has) fun v σ H Q h => by
  obtain ⟨w, ρ, st, j, Z, rel, sl, tk, h⟩ := h
  rcases tk with tk | ⟨z, _⟩
  case inr => cases z
  rw [rwx_bind] at h
  cases hz : fzW w st with
  | bad => rw [hz] at h; exact h.elim
  | exc c d s => exact absurd hz (NX.fzW w st c d s)
  | ok y s1 =>
    rw [hz] at h
    have h : RWx ((chkL ρ i >>= fun _ => ca ρ >>= fun z => Gd.asI z >>= fun k => modL ρ i (setK k y) >>= fun _ => M.pure ρ) s1) _ _ := h
    have q0 : RWp (fzW w st) fun d s' => d = y ∧ s' = s1 := by rw [hz]; exact ⟨rfl, rfl⟩
    obtain ⟨d, s', ⟨rfl, rfl⟩, r1, k1, dr⟩ := fzW_out rel tk q0
    have sl1 := k1.slots sl
    obtain ⟨l, xs, e1, e2, h⟩ := chkL_out h
    obtain ⟨v0, e3, a, rfl, e4⟩ := sl1.at_ i _ e1
    refine ⟨.ref a, e3, ?_⟩
    refine T.bind (C := (cf X nm cl E)) (ρ := ρ) (Pk := fun H j st => OkT X.K X.mg nm [] σ H j st Z Q) (k := fun z => Gd.asI z >>= fun k => modL ρ i (setK k d) >>= fun _ => M.pure ρ) r1 sl1 (fun H' j' st' a s2 k q => OkT.weak q k) (h.mono (fun a s q => OkT.weak q k1) fun c d s q => OkX.weak q k1) fun v2 w2 H2 j2 st2 r2 w2' k2 sl2 h2 => ?_
    cases w2 with
    | d d2 =>
      cases d2 with
      | int k =>
        cases w2'
        have h2 : RWx ((modL ρ i (setK k d) >>= fun _ => M.pure ρ) st2) _ _ := h2
        rw [rwx_bind] at h2
        obtain ⟨xs2, w3, ys, e5, e6, q⟩ := modL_out e1 ((NX.modL ρ i _).rwp h2)
        have e4' := k2.rf l a e4
        obtain ⟨us, hu, hd2⟩ := r2.cell l a _ e4' e5
        unfold setK at e6
        obtain ⟨n, e7, e8⟩ := Option.map_eq_some_iff.mp e6
        cases e8
        obtain ⟨r3, k3, _⟩ := r2.writeL e4' e5 hu (DrL.set (k2.dr dr) n hd2)
        exact ⟨a, us, k, n, rfl, rfl, hu, by rw [hd2.length]; exact e7, q σ _ j2 Agr.refl r3 (k3.slots sl2) k3⟩
      | _ => exact h2.elim
    | r l => exact h2.elim
    | f n => exact h2.elim
    | s ns => exact h2.elim
end
end Gd
namespace Gd
open PySem PySem.Spec L2
set_option maxHeartbeats 1000000 in
theorem meets_enum1 {v : Value} {o : Obj} {Hc : Heap → Prop} (B : Begins v o Hc) :
    Meets (Builtin.«enumerate.__new__» ⟨[.type "enumerate", v], []⟩) (fun _ R s => Hc s.heap ∧
      R (.ok (.ret (.ref (s.heap.push o).objs.size))) { s with heap := (s.heap.push o).push { cls := .type "enumerate", data := .fields #[.none, .bool false, .ref s.heap.objs.size, rawInt 0, .none, .none] } }) :=
  .of_wp fun prog w A R s h => by
    obtain ⟨hp, g, d, tk, os⟩ := s; obtain ⟨h1, h⟩ := h
    have hsub := sub_enumerate
    have q1 : ∀ {A' : Around} {E : Value → Shared → Prop} {Q : Value → Shared → Prop}, Q (.ref hp.objs.size) ⟨hp.push o, g, d, tk, os⟩ → wpAny (model prog w) A' (pyIter v) Q E ⟨hp, g, d, tk, os⟩ := fun q => B.iter prog w _ _ ⟨hp, g, d, tk, os⟩ _ h1 q
    wp_walk using q1
    refine wpAny_stack_any fun st => wpAny_pure ?_
    split
    · rename_i c _ _ _ _ _
      cases (c == Value.type "enumerate") <;> (wp_walk using q1; exact ⟨_, rfl, h⟩)
    · wp_walk using q1
      exact ⟨_, rfl, h⟩
section
variable {prog : Program} {w : World} {A : Around} {E : Value → Shared → Prop} {s : Shared}
theorem enum1_begins {v : Value} {o : Obj} {Hc : Heap → Prop} {Q : Value → Shared → Prop} (B : Begins v o Hc) (h1 : Hc s.heap)
    (h : ∀ h', IsEnum h' (s.heap.objs.size + 1) s.heap.objs.size 0 .none → h'.get? s.heap.objs.size = some o → h'.objs.size = s.heap.objs.size + 2 → (∀ b o, s.heap.get? b = some o → h'.get? b = some o) → Q (.ref (s.heap.objs.size + 1)) { s with heap := h' }) :
    wpAny (model prog w) A (call (.type "enumerate") [v]) Q E s := by
  refine callType_new F.called_enumerate (by decide) (F.typeCall_enumerate_1 _) (F.newCall_enumerate_1 _) (fun obj => F.args_object_init_2 obj _) F.entry_enumerate_new (meets_enum1 B) ⟨h1, ?_⟩
  have hz : (s.heap.push o).objs.size = s.heap.objs.size + 1 := Heap.size_push ..
  show _ ∧ _
  rw [hz]
  have he : IsEnum ((s.heap.push o).push { cls := .type "enumerate", data := .fields #[.none, .bool false, .ref s.heap.objs.size, rawInt 0, .none, .none] }) (s.heap.objs.size + 1) s.heap.objs.size 0 .none := by
    have := Heap.get?_push_size (s.heap.push o) (o := { cls := .type "enumerate", data := .fields #[.none, .bool false, .ref s.heap.objs.size, rawInt 0, .none, .none] }) rfl
    rw [hz] at this; exact this
  exact ⟨⟨_, he, rfl⟩, h _ he (Heap.get?_push_of_some _ (Heap.get?_push_size _ B.free)) (by rw [Heap.size_push, hz]) fun b o x => Heap.get?_push_of_some _ (Heap.get?_push_of_some _ x)⟩
end
def IterB (b : Bool) (h : Heap) (it a : Addr) (i : Nat) : Prop := match b with
  | true => h.IsTupleIter it a i
  | false => h.IsListIter it a i
def ArrB (b : Bool) (h : Heap) (a : Addr) (items : Array Value) : Prop := match b with
  | true => h.IsTuple a items
  | false => h.IsList a items
def SqB (b : Bool) (K : PySem.W.Frag) (H : Hp) (a : Addr) (xs : List V) : Prop := match b with
  | true => SqT K H a xs
  | false => SqL K H a xs
def iterO (b : Bool) (a : Addr) : Obj := match b with
  | true => { cls := .type "tuple_iterator", data := .fields #[.ref a, .int 0 0] }
  | false => { cls := .type "list_iterator", data := .fields #[.ref a, .int 0 0] }
theorem drawsB {prog : Program} {w : World} {A : Around} (b : Bool) (hh : A.handled = none) (it a : Addr) (hne : a ≠ it) (items : Array Value) : Draws prog w A it [it, a] items.size (fun i v => items[i]? = some v) (fun i h => IterB b h it a i ∧ ArrB b h a items) := by
  cases b
  · exact Draws.list hh it a hne items
  · exact Draws.tuple hh it a hne items
theorem beginsB (b : Bool) (a : Addr) (items : Array Value) : Begins (.ref a) (iterO b a) fun h => ArrB b h a items := by
  cases b
  · exact begins_list a items
  · exact begins_tuple a items
theorem IterB.start {b : Bool} {h : Heap} {it a : Addr} (e : h.get? it = some (iterO b a)) : IterB b h it a 0 := by
  cases b <;> exact ⟨_, e, rfl, rfl⟩
theorem IterB.at {b : Bool} {h h' : Heap} {it a : Addr} {i : Nat} (x : IterB b h it a i) (k : ∀ o, h.get? it = some o → h'.get? it = some o) : IterB b h' it a i := by
  cases b
  · exact Heap.IsListIter.at x k
  · exact Heap.IsTupleIter.at x k
theorem IterB.obj {b : Bool} {h : Heap} {it a : Addr} {i : Nat} (x : IterB b h it a i) : ∃ o, h.get? it = some o ∧ ∀ v, o.data ≠ .cell v := by
  cases b <;> (obtain ⟨o, e, c, d⟩ := x; exact ⟨o, e, fun v z => by rw [d] at z; cases z⟩)
theorem IterB.lt {b : Bool} {h : Heap} {it a : Addr} {i : Nat} (x : IterB b h it a i) : it < h.objs.size := let ⟨_, e, _⟩ := x.obj; Heap.lt_size e
theorem ArrB.lt {b : Bool} {h : Heap} {a : Addr} {items : Array Value} (x : ArrB b h a items) : a < h.objs.size := by
  cases b <;> (obtain ⟨o, e, _⟩ := x; exact Heap.lt_size e)
theorem ArrB.at {b : Bool} {h h' : Heap} {a : Addr} {items : Array Value} (x : ArrB b h a items) (k : ∀ o, h.get? a = some o → h'.get? a = some o) : ArrB b h' a items := by
  cases b <;> (obtain ⟨o, e, r⟩ := x; exact ⟨o, k o e, r⟩)
section
variable {X : Cx} {pins : List (Addr × Obj)} {σ : L2.St} {H : Hp} {s : Shared} {a : Addr} {xs ys : List V}
theorem seqB (b : Bool) (I : Inv X pins σ H s) (h : SqB b X.K H a xs) : ∃ its : List Value, Vals xs its ∧ ArrB b s.heap a its.toArray ∧ xs.length ≤ sizeLine := by
  cases b
  · obtain ⟨its, r, p, z⟩ := I.list h
    exact ⟨its, r, p.isList, z⟩
  · obtain ⟨its, r, p, z⟩ := I.tuple h
    exact ⟨its, r, p, z⟩
theorem seqB_inj (b : Bool) (I : Inv X pins σ H s) (h : SqB b X.K H a xs) (h' : SqB b X.K H a ys) : xs = ys := by
  cases b
  · exact I.list_inj h h'
  · exact I.tuple_inj h h'
end
def ItE (b : Bool) (K : PySem.W.Frag) (a : Addr) : L2.It :=
  ⟨fun i H => ∃ (xs : List V) (x : V), SqB b K H a xs ∧ xs[i]? = some x, fun i H v H' => ∃ T x, v = .ref T ∧ H T = none ∧ H' = upd H T (.tup [.int (i : Nat), x]) ∧ ∀ xs, SqB b K H a xs → xs[i]? = some x, fun i H => ∃ xs : List V, SqB b K H a xs ∧ xs.length = i⟩
theorem turn_enumB {P : Program} {w : World} {K : PySem.W.Frag} {elts : List Expr} {kk : Nat} {tpos : Pos} (b : Bool) (a e it : Addr) (hae : a ≠ e) (hai : a ≠ it) :
    Turn P w K (.Tuple elts kk tpos) (ItE b K a) [e, it] e (fun i h => (∃ old, IsEnum h e it ((i : Nat) : Int) old) ∧ IterB b h it a i ∧ e ≠ it) where
  mem := by simp
  obj := fun i h st c hb => by
    obtain ⟨⟨old, he⟩, hi, _⟩ := st
    rcases (by simpa using hb : c = e ∨ c = it) with z | z
    · rw [z]; exact ⟨_, he, fun v q => nomatch q⟩
    · rw [z]; exact hi.obj
  keep := fun i h h' st k => let ⟨⟨old, he⟩, hi, hne⟩ := st; ⟨⟨old, k e (by simp) _ he⟩, hi.at fun o q => k it (by simp) o q, hne⟩
  item := by
    intro X hP hw hK hc i pins s σ H E I hf st hg
    subst hP hw hK
    obtain ⟨⟨old, he⟩, hit, hne⟩ := st
    obtain ⟨xs, x, hq, hx⟩ := hg
    obtain ⟨its, rv, p, hz⟩ := seqB b I hq
    obtain ⟨u, hu, ru⟩ := rv.get hx
    have hel : e < s.heap.objs.size := Heap.lt_size he
    have hil := hit.lt
    have lt : i < its.toArray.size := by simpa using (List.getElem?_eq_some_iff.mp hu).1
    have hh1 : X.A.in1.handled = none := I.ok.hd hc
    refine wpAny_pyNext_enum_itemD (drawsB b hh1 it a hai its.toArray) he ⟨hit, p⟩ lt hne (by simp [hne, Ne.symm hae]) fun v h' tk hP ho hit' hT hsz hk => ?_
    have ev : v = u := by
      have q : its[i]? = some v := by simpa using hP
      rw [hu] at q
      exact (Option.some.inj q).symm
    subst ev
    refine ⟨_, rfl, wpAny_letOwnedTupleGo_enum (s := { s with heap := h', toks := tk + 1 }) ho fun h'' he' sb => ?_⟩
    have hT2 : h''.get? s.heap.objs.size = some { cls := .type "tuple", data := .seq #[.int i tk, v] } := (sb.2 _ (Nat.ne_of_gt hel)).trans hT
    have new : ObjOk X.prog X.w (upd H s.heap.objs.size (.tup [.int (i : Nat), x])) h'' s.heap.objs.size (.tup [.int (i : Nat), x]) := ⟨by show 2 ≤ sizeLine; decide, [.int i tk, v], .cons ⟨_, rfl⟩ (.cons ru .nil), ⟨_, hT2, rfl, _, rfl⟩⟩
    have I1 : Inv X pins σ (upd H s.heap.objs.size (.tup [.int (i : Nat), x])) { s with heap := h'', toks := tk + 1 } :=
      I.turnedNew (ch := [e, it]) (fun c ob hb q => (sb.2 c (fun z => hb (by simp [z]))).trans (hk c ob (fun z => hb (by simp [z])) (fun z => hb (by simp [z])) q)) hf (Nat.le_refl _) new
    refine ⟨.ref s.heap.objs.size, _, I1, rfl, ⟨_, x, rfl, I.hok.fresh (Nat.le_refl _), rfl, fun ys hy => by rw [seqB_inj b I hy hq]; exact hx⟩, ⟨⟨v, ?_⟩, hit'.1.at fun o q => (sb.2 it (Ne.symm hne)).trans q, hne⟩, fun c hb => ?_⟩
    · rw [show ((i + 1 : Nat) : Int) = (i : Int) + 1 by omega]; exact he'
    · have hb' : c < s.heap.objs.size := by
        rcases (by simpa using hb : c = e ∨ c = it) with z | z
        · rw [z]; exact hel
        · rw [z]; exact hil
      rw [upd_ne (Nat.ne_of_lt hb')]
      exact (hf c hb).1
  done := by
    intro X hP hw hK hc i pins s σ H E I hf st hg
    subst hP hw hK
    obtain ⟨⟨old, he⟩, hit, hne⟩ := st
    obtain ⟨xs, hq, hx⟩ := hg
    obtain ⟨its, rv, p, hz⟩ := seqB b I hq
    obtain ⟨f0, f1, f2, f3, f4, f5⟩ := hf it (by simp)
    have hl := rv.length
    have hh1 : X.A.in1.handled = none := I.ok.hd hc
    have en : its.toArray.size = i := by rw [List.size_toArray, ← hl]; exact hx
    exact wpAny_pyNext_enum_endD (drawsB b hh1 it a hai its.toArray) he (by rw [en]; exact ⟨hit, p⟩) fun h' eb => ⟨rfl, I.turned (t' := s.toks) (fun c o hb q => eb c o hb q) f0 f1 f3 f4 f5⟩
  self := fun A i s Q E st h => let ⟨⟨_, he⟩, _⟩ := st; wpAny_pyIter_enum he h
def iEnumB (K : PySem.W.Frag) (ta : TA) : TI := fun σ H R => ta σ H fun vs H1 => ∃ b a xs, vs = [.ref a] ∧ SqB b K H1 a xs ∧ R (ItE b K a) H1
theorem pi_enumB {X : Cx} {e : Expr} {ta : TA} {p pos tpos : Pos} {elts : List Expr} {kk : Nat} (hg : Gl X "enumerate") (hm : X.mg "enumerate" = none) (ha : PA X [e] ta) (hs : starEach [e] X.env = [(false, eval e X.env)]) :
    PI X (.Tuple elts kk tpos) (.Call (.Name "enumerate" p) [e] [] pos) (iEnumB X.K ta) := by
  refine ⟨fun pins s σ H R I h => ?_⟩
  refine PyProof.Rows.Call_ (ld_blt I hg hm boot_b19 (PyProof.Rows.callWith_type1 (thn (ha.run pos pins s σ H _ I h) fun us s1 ⟨vs, H1, I1, r1, q1⟩ => ?_) hs rfl))
  obtain ⟨b, a, xs, rfl, hq, q⟩ := q1
  rw [Vals.ref1 r1]
  obtain ⟨its, rv, p', hz⟩ := seqB b I1 hq
  have al := p'.lt
  refine enum1_begins (beginsB b a its.toArray) p' fun h' he ho hsz hk => wpAny_pyIter_enum he ?_
  have I2 : Inv X pins σ H1 { s1 with heap := h' } := I1.kept (t' := s1.toks) hk
  refine ⟨s1.heap.objs.size + 1, [s1.heap.objs.size + 1, s1.heap.objs.size], _, _, H1, rfl, I2, turn_enumB b a (s1.heap.objs.size + 1) s1.heap.objs.size (Nat.ne_of_lt (Nat.lt_succ_of_lt al)) (Nat.ne_of_lt al), ⟨⟨.none, he⟩, IterB.start ho, Nat.succ_ne_self _⟩, fun c hb => ?_, q⟩
  have hle : s1.heap.objs.size ≤ c := by
    rcases (by simpa using hb : c = s1.heap.objs.size + 1 ∨ c = s1.heap.objs.size) with z | z
    · rw [z]; exact Nat.le_succ _
    · rw [z]; exact Nat.le_refl _
  exact I1.fpOk hle (I1.hok.fresh hle)
def ItZ (b1 b2 : Bool) (K : PySem.W.Frag) (a b : Addr) : L2.It :=
  ⟨fun i H => ∃ (xs ys : List V) (x y : V), SqB b1 K H a xs ∧ SqB b2 K H b ys ∧ xs[i]? = some x ∧ ys[i]? = some y,
    fun i H v H' => ∃ T x y, v = .ref T ∧ H T = none ∧ H' = upd H T (.tup [x, y]) ∧ (∀ xs, SqB b1 K H a xs → xs[i]? = some x) ∧ ∀ ys, SqB b2 K H b ys → ys[i]? = some y,
    fun i H => ∃ xs ys : List V, SqB b1 K H a xs ∧ SqB b2 K H b ys ∧ i ≤ xs.length ∧ i ≤ ys.length ∧ (i = xs.length ∨ i = ys.length)⟩
theorem turn_zipB {P : Program} {w : World} {K : PySem.W.Frag} {elts : List Expr} {kk : Nat} {tpos : Pos} (b1 b2 : Bool) {a b z TI TO i1 i2 : Addr} (D : ZipSep2 z TI TO i1 i2 [i1, a] [i2, b]) (h1a : a ≠ i1) (h2b : b ≠ i2) :
    Turn P w K (.Tuple elts kk tpos) (ItZ b1 b2 K a b) [z, TI, TO, i1, i2] z (fun i h => IsZip h z TI TO .none ∧ IsTupOf2 h TI (.ref i1) (.ref i2) ∧ (∃ x y, IsTupOf2 h TO x y) ∧ IterB b1 h i1 a i ∧ IterB b2 h i2 b i) where
  mem := by simp
  obj := fun i h st c hc => by
    obtain ⟨hz, hTI, ⟨x, y, hTO⟩, g1, g2⟩ := st
    rcases (by simpa using hc : c = z ∨ c = TI ∨ c = TO ∨ c = i1 ∨ c = i2) with q | q | q | q | q
    · rw [q]; exact ⟨_, hz, fun v q => nomatch q⟩
    · rw [q]; exact ⟨_, hTI, fun v q => nomatch q⟩
    · rw [q]; exact ⟨_, hTO, fun v q => nomatch q⟩
    · rw [q]; exact g1.obj
    · rw [q]; exact g2.obj
  keep := fun i h h' st k => by
    obtain ⟨hz, hTI, ⟨x, y, hTO⟩, g1, g2⟩ := st
    exact ⟨k z (by simp) _ hz, k TI (by simp) _ hTI, ⟨x, y, k TO (by simp) _ hTO⟩, g1.at fun o q => k i1 (by simp) o q, g2.at fun o q => k i2 (by simp) o q⟩
  item := by
    intro X hP hw hK hc i pins s σ H E I hf st hg
    subst hP hw hK
    obtain ⟨hz, hTI, ⟨x0, y0, hTO⟩, g1, g2⟩ := st
    obtain ⟨xs, ys, x, y, hqx, hqy, hx, hy⟩ := hg
    obtain ⟨its, rv, p, _⟩ := seqB b1 I hqx
    obtain ⟨its2, rv2, p2, _⟩ := seqB b2 I hqy
    obtain ⟨u, hu, ru⟩ := rv.get hx
    obtain ⟨u2, hu2, ru2⟩ := rv2.get hy
    have hzl : z < s.heap.objs.size := Heap.lt_size hz
    have lt1 : i < its.toArray.size := by simpa using (List.getElem?_eq_some_iff.mp hu).1
    have lt2 : i < its2.toArray.size := by simpa using (List.getElem?_eq_some_iff.mp hu2).1
    have hh1 : X.A.in1.handled = none := I.ok.hd hc
    refine wpAny_pyNext_zipD2_item D (drawsB b1 hh1 i1 a h1a its.toArray) (drawsB b2 hh1 i2 b h2b its2.toArray) hz hTI hTO ⟨g1, p⟩ ⟨g2, p2⟩ lt1 lt2 fun v1 v2 h' tk hP1 hP2 z' TO' s1' s2' hT hsz hk => ?_
    have ev1 : v1 = u := by
      have q : its[i]? = some v1 := by simpa using hP1
      rw [hu] at q
      exact (Option.some.inj q).symm
    have ev2 : v2 = u2 := by
      have q : its2[i]? = some v2 := by simpa using hP2
      rw [hu2] at q
      exact (Option.some.inj q).symm
    subst ev1 ev2
    refine ⟨_, rfl, wpAny_letOwnedTupleGo_zip (s := { s with heap := h', toks := tk }) z' fun h'' z'' sb => ?_⟩
    have hT2 : h''.get? s.heap.objs.size = some { cls := .type "tuple", data := .seq #[v1, v2] } := (sb.2 _ (Nat.ne_of_gt hzl)).trans hT
    have new : ObjOk X.prog X.w (upd H s.heap.objs.size (.tup [x, y])) h'' s.heap.objs.size (.tup [x, y]) := ⟨by show 2 ≤ sizeLine; decide, [v1, v2], .cons ru (.cons ru2 .nil), ⟨_, hT2, rfl, _, rfl⟩⟩
    have I1 : Inv X pins σ (upd H s.heap.objs.size (.tup [x, y])) { s with heap := h'', toks := tk } :=
      I.turnedNew (ch := [z, TI, TO, i1, i2]) (fun c o hb q => (sb.2 c (fun q' => hb (by simp [q']))).trans (hk c o (fun q' => hb (by simp [q'])) (fun q' => hb (by simp [q'])) (fun q' => hb (by simp [q'])) (fun q' => hb (by simp [q'])) q)) hf (Nat.le_refl _) new
    have ne1 : i1 ≠ z := Ne.symm D.zi1
    have ne2 : i2 ≠ z := Ne.symm D.zi2
    refine ⟨.ref s.heap.objs.size, _, I1, rfl, ⟨_, x, y, rfl, I.hok.fresh (Nat.le_refl _), rfl, fun l hl => by rw [seqB_inj b1 I hl hqx]; exact hx, fun l hl => by rw [seqB_inj b2 I hl hqy]; exact hy⟩, ⟨z'', ?_, ⟨v1, v2, ?_⟩, ?_, ?_⟩, fun c hcm => ?_⟩
    · exact (sb.2 _ D.TIz).trans (hk _ _ D.TIz D.TITO D.TIi1 D.TIi2 hTI)
    · exact (sb.2 _ D.TOz).trans TO'
    · exact s1'.1.at fun o q => (sb.2 _ ne1).trans q
    · exact s2'.1.at fun o q => (sb.2 _ ne2).trans q
    · have hlt : c < s.heap.objs.size := by
        rcases (by simpa using hcm : c = z ∨ c = TI ∨ c = TO ∨ c = i1 ∨ c = i2) with q | q | q | q | q
        · rw [q]; exact hzl
        · rw [q]; exact Heap.lt_size hTI
        · rw [q]; exact Heap.lt_size hTO
        · rw [q]; exact g1.lt
        · rw [q]; exact g2.lt
      rw [upd_ne (Nat.ne_of_lt hlt)]
      exact (hf c hcm).1
  done := by
    intro X hP hw hK hc i pins s σ H E I hf st hg
    subst hP hw hK
    obtain ⟨hz, hTI, ⟨x0, y0, hTO⟩, g1, g2⟩ := st
    obtain ⟨xs, ys, hqx, hqy, le1, le2, hend⟩ := hg
    obtain ⟨its, rv, p, _⟩ := seqB b1 I hqx
    obtain ⟨its2, rv2, p2, _⟩ := seqB b2 I hqy
    have l1 : its.toArray.size = xs.length := by rw [List.size_toArray, rv.length]
    have l2 : its2.toArray.size = ys.length := by rw [List.size_toArray, rv2.length]
    have hh1 : X.A.in1.handled = none := I.ok.hd hc
    exact wpAny_pyNext_zipD2_end D (drawsB b1 hh1 i1 a h1a its.toArray) (drawsB b2 hh1 i2 b h2b its2.toArray) hz hTI hTO ⟨g1, p⟩ ⟨g2, p2⟩ (by rw [l1]; exact le1) (by rw [l2]; exact le2) (by rw [l1, l2]; exact hend) fun h' tk hk => ⟨rfl, I.turnedL (t' := tk) (ch := [z, TI, TO, i1, i2]) (fun c o hb q =>
      hk c o (fun q' => hb (by simp [q'])) (fun q' => hb (by simp [q'])) (fun q' => hb (by simp [q'])) (fun q' => hb (by simp [q'])) q) hf⟩
  self := fun A i s Q E st h => wpAny_pyIter_zip st.1 h
def iZipB (K : PySem.W.Frag) (ta : TA) : TI := fun σ H R => ta σ H fun vs H1 => ∃ b1 b2 a b xs ys, vs = [.ref a, .ref b] ∧ SqB b1 K H1 a xs ∧ SqB b2 K H1 b ys ∧ R (ItZ b1 b2 K a b) H1
theorem pi_zipB {X : Cx} {e e2 : Expr} {ta : TA} {p pos tpos : Pos} {elts : List Expr} {kk : Nat} (hg : Gl X "zip") (hm : X.mg "zip" = none) (ha : PA X [e, e2] ta)
    (hs : starEach [e, e2] X.env = (false, eval e X.env) :: starEach [e2] X.env) (hpl : (backTo pos (starEach [e2] X.env)).any (·.1) = false) : PI X (.Tuple elts kk tpos) (.Call (.Name "zip" p) [e, e2] [] pos) (iZipB X.K ta) := by
  refine ⟨fun pins s σ H R I h => ?_⟩
  refine PyProof.Rows.Call_ (ld_blt I hg hm boot_b20 (PyProof.Rows.callWith_type1 (thn (ha.run pos pins s σ H _ I h) fun us s1 ⟨vs, H1, I1, r1, q1⟩ => ?_) hs hpl))
  obtain ⟨b1, b2, a, b, xs, ys, rfl, hqx, hqy, q⟩ := q1
  obtain ⟨u1, u2, rfl, r, r'⟩ := vals2 r1
  cases r
  cases r'
  obtain ⟨its, rv, p1, _⟩ := seqB b1 I1 hqx
  obtain ⟨its2, rv2, p2, _⟩ := seqB b2 I1 hqy
  have la := p1.lt
  have lb := p2.lt
  refine zip_begins2 (beginsB b1 a its.toArray) (beginsB b2 b its2.toArray) p1 p2 fun h' hz hTI hTO h1 h2 hsz hk => wpAny_pyIter_zip hz ?_
  have I2 : Inv X pins σ H1 { s1 with heap := h' } := I1.kept (t' := s1.toks) hk
  have S : ZipSep2 (s1.heap.objs.size + 4) (s1.heap.objs.size + 2) (s1.heap.objs.size + 3) s1.heap.objs.size (s1.heap.objs.size + 1) [s1.heap.objs.size, a] [s1.heap.objs.size + 1, b] := zip_sep2 (fun c hc => by rw [List.mem_singleton.mp hc]; exact la) (fun c hc => by rw [List.mem_singleton.mp hc]; exact lb)
  refine ⟨s1.heap.objs.size + 4, [s1.heap.objs.size + 4, s1.heap.objs.size + 2, s1.heap.objs.size + 3, s1.heap.objs.size, s1.heap.objs.size + 1], _, _, H1, rfl, I2, turn_zipB b1 b2 S (Nat.ne_of_lt la) (Nat.ne_of_lt (Nat.lt_succ_of_lt lb)), ⟨hz, hTI, ⟨_, _, hTO⟩, IterB.start h1, IterB.start h2⟩, fun c hcm => ?_, q⟩
  have hle : s1.heap.objs.size ≤ c := by
    rcases (by simpa using hcm : c = s1.heap.objs.size + 4 ∨ c = s1.heap.objs.size + 2 ∨ c = s1.heap.objs.size + 3 ∨ c = s1.heap.objs.size ∨ c = s1.heap.objs.size + 1) with z | z | z | z | z
    · rw [z]; exact Nat.le_add_right _ _
    · rw [z]; exact Nat.le_add_right _ _
    · rw [z]; exact Nat.le_add_right _ _
    · rw [z]; exact Nat.le_refl _
    · rw [z]; exact Nat.le_add_right _ _
  exact I1.fpOk hle (I1.hok.fresh hle)
end Gd
namespace Gd
open PySem PySem.Spec L2
structure Src (K : PySem.W.Frag) (J : L2.It) (tp : Bool) (P : Hp → (Addr → Prop) → Prop) (xs : List PyData) : Prop where
  keep : ∀ {H L H' L'}, P H L → Ext H L H' L' → P H' L'
  go : ∀ {H L} {i : Nat}, P H L → i < xs.length → J.go i H
  yld : ∀ {H L} {i : Nat} {x H'}, P H L → J.yld i H x H' → i < xs.length → ∃ d, xs[i]? = some d ∧ ((H' = H ∧ Dr K H L x d) ∨ (tp = true ∧ ∃ T vs ds, x = .ref T ∧ H T = none ∧ H' = upd H T (.tup vs) ∧ d = .tuple ds ∧ DrL K H L vs ds))
  stop : ∀ {H L}, P H L → J.stop xs.length H
section
variable {K : PySem.W.Frag}
def SqP (K : PySem.W.Frag) (b : Bool) (a : Addr) (vs : List V) (H : Hp) (L : Addr → Prop) : Prop := match b with
  | true => TpQ K H a vs
  | false => H a = some (.lst vs) ∧ ¬ L a
theorem SqP.keep {b : Bool} {H H' : Hp} {L L' : Addr → Prop} {a : Addr} {vs : List V} (h : SqP K b a vs H L) (e : Ext H L H' L') : SqP K b a vs H' L' := by
  cases b
  · exact e.st h.1 h.2 (fun ps z => by cases z) rfl
  · exact e.sqt h
def SdP (K : PySem.W.Frag) (b : Bool) (a : Addr) (vs : List V) (xs : List PyData) (H : Hp) (L : Addr → Prop) : Prop := SqP K b a vs H L ∧ DrL K H L vs xs
theorem SdP.sq {b : Bool} {a : Addr} {vs : List V} {xs : List PyData} {H : Hp} {L : Addr → Prop} (h : SdP K b a vs xs H L) : SqB b K H a vs := by
  obtain ⟨h, _⟩ := h
  cases b
  · exact .inl (.inl h.1)
  · exact TpQ.sqt h
theorem SdP.keep {b : Bool} {a : Addr} {vs : List V} {xs : List PyData} {H H' : Hp} {L L' : Addr → Prop} (h : SdP K b a vs xs H L) (e : Ext H L H' L') : SdP K b a vs xs H' L' := ⟨h.1.keep e, h.2.ext e⟩
theorem SdP.of_seq {v : V} {d : PyData} {xs : List PyData} {H : Hp} {L : Addr → Prop} (h : Dr K H L v d) (e : d = .list xs ∨ d = .tuple xs) : ∃ b a vs, v = .ref a ∧ SdP K b a vs xs H L := by
  rcases e with rfl | rfl
  · obtain ⟨a, vs, rfl, h1, h2, h3⟩ := h.list_inv
    exact ⟨false, a, vs, rfl, ⟨h1, h2⟩, h3⟩
  · obtain ⟨a, vs, rfl, h1, h3⟩ := h.tup_inv
    exact ⟨true, a, vs, rfl, h1, h3⟩
theorem src_list {a : Addr} {vs : List V} {xs : List PyData} (tp : Bool) : Src K (Itl K a) tp (SdP K false a vs xs) xs where
  keep := SdP.keep
  go := fun {H L i} h lt => by
    have lv : i < vs.length := by rw [h.2.length]; exact lt
    exact ⟨vs, vs[i], h.sq, List.getElem?_eq_getElem lv⟩
  yld := fun {H L i x H'} h y lt => by
    obtain ⟨e, y⟩ := y
    obtain ⟨d, e1, e2⟩ := h.2.getV (y vs h.sq)
    exact ⟨d, e1, .inl ⟨e, e2⟩⟩
  stop := fun {H L} h => ⟨vs, h.sq, Nat.le_of_eq h.2.length⟩
theorem src_tup {a : Addr} {vs : List V} {xs : List PyData} (tp : Bool) : Src K (Itt K a) tp (SdP K true a vs xs) xs where
  keep := SdP.keep
  go := fun {H L i} h lt => by
    have lv : i < vs.length := by rw [h.2.length]; exact lt
    exact ⟨vs, vs[i], h.sq, List.getElem?_eq_getElem lv⟩
  yld := fun {H L i x H'} h y lt => by
    obtain ⟨e, y⟩ := y
    obtain ⟨d, e1, e2⟩ := h.2.getV (y vs h.sq)
    exact ⟨d, e1, .inl ⟨e, e2⟩⟩
  stop := fun {H L} h => ⟨vs, h.sq, Nat.le_of_eq h.2.length⟩
theorem src_str {z : Str} (tp : Bool) : Src K (Its z) tp (fun _ _ => True) (z.cps.toList.map fun c => .str ⟨#[c]⟩) where
  keep := fun _ _ => trivial
  go := fun {H L i} _ lt => by
    have lt : i < z.cps.size := by simpa using lt
    exact lt
  yld := fun {H L i x H'} _ y lt => by
    obtain ⟨e, c, e1, e2⟩ := y
    subst e2
    exact ⟨.str ⟨#[c]⟩, by rw [List.getElem?_map, Array.getElem?_toList, e1]; rfl, .inl ⟨e, .str _⟩⟩
  stop := fun {H L} _ => by
    show z.cps.size ≤ _
    simp
theorem src_range {lo hi : Int} (tp : Bool) : Src K (Itr lo (hi - lo).toNat) tp (fun _ _ => True) (rangeD lo hi) where
  keep := fun _ _ => trivial
  go := fun {H L i} _ lt => by
    have lt : i < (hi - lo).toNat := by simpa [rangeD] using lt
    exact lt
  yld := fun {H L i x H'} _ y lt => by
    obtain ⟨e, e2⟩ := y
    subst e2
    have lt : i < (hi - lo).toNat := by simpa [rangeD] using lt
    refine ⟨.int (lo + i), ?_, .inl ⟨e, .int _⟩⟩
    unfold rangeD
    rw [List.getElem?_map, List.getElem?_range lt]
    rfl
  stop := fun {H L} _ => by
    show (hi - lo).toNat ≤ _
    simp [rangeD]
theorem src_enum {b : Bool} {a : Addr} {vs : List V} {xs : List PyData} : Src K (ItE b K a) true (SdP K b a vs xs) (enumD xs) where
  keep := SdP.keep
  go := fun {H L i} h lt => by
    have lv : i < vs.length := by rw [h.2.length]; simpa [enumD] using lt
    exact ⟨vs, vs[i], h.sq, List.getElem?_eq_getElem lv⟩
  yld := fun {H L i x H'} h y lt => by
    obtain ⟨T, v, rfl, hT, e, y⟩ := y
    obtain ⟨d, e1, e2⟩ := h.2.getV (y vs h.sq)
    refine ⟨.tuple [.int i, d], ?_, .inr ⟨rfl, T, _, _, rfl, hT, e, rfl, .cons (.int _) (.cons e2 .nil)⟩⟩
    unfold enumD
    rw [List.getElem?_map, List.getElem?_zipIdx, e1]
    simp
  stop := fun {H L} h => ⟨vs, h.sq, by rw [h.2.length]; simp [enumD]⟩
theorem src_zip {b1 b2 : Bool} {a b : Addr} {vs us : List V} {xs ys : List PyData} : Src K (ItZ b1 b2 K a b) true (fun H L => SdP K b1 a vs xs H L ∧ SdP K b2 b us ys H L) (pairsD xs ys) where
  keep := fun h e => ⟨h.1.keep e, h.2.keep e⟩
  go := fun {H L i} h lt => by
    have l : i < xs.length ∧ i < ys.length := by
      unfold pairsD at lt
      rw [List.length_zipWith] at lt
      omega
    have lv : i < vs.length := by rw [h.1.2.length]; exact l.1
    have lu : i < us.length := by rw [h.2.2.length]; exact l.2
    exact ⟨vs, us, vs[i], us[i], h.1.sq, h.2.sq, List.getElem?_eq_getElem lv, List.getElem?_eq_getElem lu⟩
  yld := fun {H L i x H'} h y lt => by
    obtain ⟨T, v, u, rfl, hT, e, y1, y2⟩ := y
    obtain ⟨d, e1, e2⟩ := h.1.2.getV (y1 vs h.1.sq)
    obtain ⟨d', e3, e4⟩ := h.2.2.getV (y2 us h.2.sq)
    refine ⟨.tuple [d, d'], ?_, .inr ⟨rfl, T, _, _, rfl, hT, e, rfl, .cons e2 (.cons e4 .nil)⟩⟩
    unfold pairsD
    rw [List.getElem?_zipWith, e1, e3]
  stop := fun {H L} h => by
    have l1 := h.1.2.length
    have l2 := h.2.2.length
    refine ⟨vs, us, h.1.sq, h.2.sq, ?_, ?_, ?_⟩ <;> (unfold pairsD; rw [List.length_zipWith]; omega)
end
def TIr (C : Cf) (tp : Bool) (ci : Rho → M (List PyData)) : TI := fun σ H R => At C σ H fun ρ st j Z => RWx (ci ρ st) (fun xs st' => ∀ H' j' J P, Rel C.K H' j' st' Z → Keep H j st H' j' st' → Src C.K J tp P xs → P H' (Lz j' st' Z) → R J H') (OkX C.K C.cl H j st Z C.E)
theorem pi_imp {X : Cx} {tg e : Expr} {t t' : TI} (h : PI X tg e t) (f : ∀ σ H R, t' σ H R → t σ H R) : PI X tg e t' := ⟨fun pins s σ H R I q => h.run pins s σ H R I (f σ H R q)⟩
section
variable {X : Cx} {nm : Nat → Str} {cl : Nat → Value × Str} {E : XK} {ca cb : Rho → M W} {e e2 tg : Expr} {es : List Expr} {p pos : Pos} {tp : Bool}
def iSeq (K : PySem.W.Frag) (tl : TE) : TI := fun σ H R => tl σ H fun x H1 => (∃ a xs, x = .ref a ∧ SqL K H1 a xs ∧ R (Itl K a) H1) ∨ (∃ a xs, x = .ref a ∧ SqT K H1 a xs ∧ R (Itt K a) H1) ∨ ∃ z, x = .str z ∧ R (Its z) H1
theorem pi_seq {tl : TE} (hl : PE X e tl) : PI X tg e (iSeq X.K tl) := by
  refine ⟨fun pins s σ H R I h => ?_⟩
  refine thn (hl.run pins s σ H _ I h) fun v s1 ⟨x, H1, I1, r1, q1⟩ => ?_
  rcases q1 with ⟨a, xs, rfl, hq, q⟩ | ⟨a, xs, rfl, hq, q⟩ | ⟨z, rfl, q⟩
  · cases r1
    obtain ⟨its, rv, pl, hz⟩ := I1.list hq
    refine wpAny_pyIter_list pl.isList ⟨s1.heap.objs.size, [s1.heap.objs.size], _, _, H1, rfl, I1.kept (t' := s1.toks) fun b o e => Heap.get?_push_of_some _ e, turn_list a _, ⟨_, Heap.get?_push_size _ rfl, rfl, rfl⟩, fun b hb => ?_, q⟩
    rw [List.mem_singleton.mp hb]
    exact I1.fpOk (Nat.le_refl _) (I1.hok.fresh (Nat.le_refl _))
  · cases r1
    obtain ⟨its, rv, pl, hz⟩ := I1.tuple hq
    refine wpAny_pyIter_tuple (show s1.heap.IsTuple a its.toArray from pl) ⟨s1.heap.objs.size, [s1.heap.objs.size], _, _, H1, rfl, I1.kept (t' := s1.toks) fun b o e => Heap.get?_push_of_some _ e, turn_tuple a _, ⟨_, Heap.get?_push_size _ rfl, rfl, rfl⟩, fun b hb => ?_, q⟩
    rw [List.mem_singleton.mp hb]
    exact I1.fpOk (Nat.le_refl _) (I1.hok.fresh (Nat.le_refl _))
  · obtain ⟨t, rfl⟩ := r1
    cases ha : z.cps.all (· < 128)
    · exact wpAny_pyIter_wide ha (pi_one (tk := s1.toks) I1 _ (turn_str _ z t "str_iterator" (.inr rfl)) ⟨_, Heap.get?_push_size _ rfl, rfl, rfl⟩ q)
    · exact wpAny_pyIter_ascii ha (pi_one (tk := s1.toks) I1 _ (turn_str _ z t "str_ascii_iterator" (.inl rfl)) ⟨_, Heap.get?_push_size _ rfl, rfl, rfl⟩ q)
theorem NX.seqM (w : W) : NX (seqM w) := NX.bind (NX.fzW w) fun _ => NX.ofO _
theorem seqD_inv {d : PyData} {xs : List PyData} (h : seqD d = some xs) : (d = .list xs ∨ d = .tuple xs) ∨ ∃ z, d = .str z ∧ xs = z.cps.toList.map fun c => .str ⟨#[c]⟩ := by
  cases d with
  | list ys => simp only [seqD, Option.some.injEq] at h; subst h; exact .inl (.inl rfl)
  | tuple ys => simp only [seqD, Option.some.injEq] at h; subst h; exact .inl (.inr rfl)
  | str z =>
    simp only [seqD] at h
    split at h
    · cases h; exact .inr ⟨z, rfl, rfl⟩
    · cases h
  | _ => simp [seqD] at h
theorem pi_seqD (ha : PE X e (T (cf X nm cl E) ca)) : PI X tg e (TIr (cf X nm cl E) tp fun ρ => ca ρ >>= seqM) := pi_imp (pi_seq ha) fun σ H R h => by
  obtain ⟨ρ, st, j, Z, rel, sl, h⟩ := h
  refine T.bind (C := (cf X nm cl E)) (Pk := fun H j st => fun xs st' => ∀ H' j' J P, Rel X.K H' j' st' Z → Keep H j st H' j' st' → Src X.K J tp P xs → P H' (Lz j' st' Z) → R J H') (k := seqM) rel sl (fun H' j' st' a s2 k q H2 j2 J P r2 k2 => q H2 j2 J P r2 (k.trans k2)) h fun v w H1 j1 st1 r1 w1 k1 sl1 h1 => ?_
  have h1 := (NX.seqM w).rwp h1
  unfold seqM at h1
  rw [rwp_bind] at h1
  obtain ⟨d, s', q, r', k', dr⟩ := fzW_out r1 w1 h1
  obtain ⟨xs, e1, q⟩ := rwp_ofO q
  rcases seqD_inv e1 with e2 | ⟨z, rfl, rfl⟩
  · obtain ⟨b, a, vs, rfl, sd⟩ := SdP.of_seq dr e2
    cases b
    · exact .inl ⟨a, vs, rfl, sd.sq, q H1 j1 _ _ r' k' (src_list tp) sd⟩
    · exact .inr (.inl ⟨a, vs, rfl, sd.sq, q H1 j1 _ _ r' k' (src_tup tp) sd⟩)
  · cases dr
    exact .inr (.inr ⟨z, rfl, q H1 j1 _ _ r' k' (src_str tp) trivial⟩)
theorem asI_out {K : PySem.W.Frag} {mg : Str → Option Value} {H : Hp} {j : List Addr} {st : Sto} {Z : Addr → Prop} {α : Type} {v : V} {w : W} {k : Int → M α} {P : α → Sto → Prop} {XX : Nat → PyData → Sto → Prop} (h : RWx ((Gd.asI w >>= k) st) P XX) (hw : Wr K mg nm H j st Z v w) : ∃ i, v = .int i ∧ RWx (k i st) P XX := by
  cases w with
  | d d =>
    cases d with
    | int i => cases hw; exact ⟨i, rfl, h⟩
    | _ => exact h.elim
  | r l => exact h.elim
  | f n => exact h.elim
  | s ns => exact h.elim
theorem pi_rng1D (hg : Gl X "range") (hm : X.mg "range" = none) (ha : PE X e (T (cf X nm cl E) ca)) (he : starEach [e] X.env = (false, eval e X.env) :: starEach [] X.env) (hs : starEach [e] X.env = [(false, eval e X.env)]) :
    PI X tg (.Call (.Name "range" p) [e] [] pos) (TIr (cf X nm cl E) tp fun ρ => ca ρ >>= rng1M) := pi_imp (pi_range1 hg hm (pa_one ha he) hs) fun σ H R h => by
  obtain ⟨ρ, st, j, Z, rel, sl, h⟩ := h
  refine T.bind (C := (cf X nm cl E)) (Pk := fun H j st => fun xs st' => ∀ H' j' J P, Rel X.K H' j' st' Z → Keep H j st H' j' st' → Src X.K J tp P xs → P H' (Lz j' st' Z) → R J H') (k := rng1M) rel sl (fun H' j' st' a s2 k q H2 j2 J P r2 k2 => q H2 j2 J P r2 (k.trans k2)) h fun v w H1 j1 st1 r1 w1 k1 sl1 h1 => ?_
  obtain ⟨i, rfl, h1⟩ := asI_out h1 w1
  split at h1
  · rename_i hi
    have q := h1 H1 j1 _ _ r1 Keep.refl (src_range (lo := 0) (hi := i) tp) trivial
    exact ⟨i, rfl, hi.1, hi.2, by simpa using q⟩
  · exact h1.elim
theorem pi_rng2D (hg : Gl X "range") (hm : X.mg "range" = none) (ha : PE X e (T (cf X nm cl E) ca)) (hb : PE X e2 (T (cf X nm cl E) cb)) (he : starEach [e, e2] X.env = (false, eval e X.env) :: starEach [e2] X.env) (he2 : starEach [e2] X.env = (false, eval e2 X.env) :: starEach [] X.env)
    (hs : starEach [e, e2] X.env = [(false, eval e X.env), (false, eval e2 X.env)]) (hs2 : starEach [e2] X.env = [(false, eval e2 X.env)]) :
    PI X tg (.Call (.Name "range" p) [e, e2] [] pos) (TIr (cf X nm cl E) tp fun ρ => ca ρ >>= fun x => cb ρ >>= fun y => rng2M x y) := pi_imp (pi_range2 hg hm (pa_cons ha (pa_one hb he2) he) hs hs2) fun σ H R h => by
  obtain ⟨ρ, st, j, Z, rel, sl, h⟩ := h
  refine T.bind (C := (cf X nm cl E)) (Pk := fun H j st => fun xs st' => ∀ H' j' J P, Rel X.K H' j' st' Z → Keep H j st H' j' st' → Src X.K J tp P xs → P H' (Lz j' st' Z) → R J H') (k := fun x => cb ρ >>= fun y => rng2M x y) rel sl (fun H' j' st' a s2 k q H2 j2 J P r2 k2 => q H2 j2 J P r2 (k.trans k2)) h fun v w H1 j1 st1 r1 w1 k1 sl1 h1 => ?_
  refine T.bind (C := (cf X nm cl E)) (Pk := fun H j st => fun xs st' => ∀ H' j' J P, Rel X.K H' j' st' Z → Keep H j st H' j' st' → Src X.K J tp P xs → P H' (Lz j' st' Z) → R J H') (k := fun y => rng2M w y) r1 sl1 (fun H' j' st' a s2 k q H2 j2 J P r2 k2 => q H2 j2 J P r2 (k.trans k2)) h1 fun v2 w2 H2 j2 st2 r2 w2' k2 sl2 h2 => ?_
  obtain ⟨i, rfl, h2⟩ := asI_out h2 (k2.wr w1)
  obtain ⟨i2, rfl, h2⟩ := asI_out h2 w2'
  split at h2
  · rename_i hi
    have q := h2 H2 j2 _ _ r2 Keep.refl (src_range (lo := i) (hi := i2) tp) trivial
    exact ⟨i, i2, rfl, ⟨hi.1.1, hi.1.2, hi.2.1, hi.2.2⟩, q⟩
  · exact h2.elim
theorem sqD_inv {d : PyData} {xs : List PyData} (h : sqD d = some xs) : d = .list xs ∨ d = .tuple xs := by
  cases d <;> simp only [sqD] at h <;> first | cases h; done | (cases h; first | exact .inl rfl | exact .inr rfl)
theorem NX.enumM (w : W) : NX (enumM w) := NX.bind (NX.fzW w) fun _ => NX.bind (NX.ofO _) fun _ => NX.pure _
theorem NX.zipM (w u : W) : NX (zipM w u) := NX.bind (NX.fzW w) fun _ => NX.bind (NX.ofO _) fun _ => NX.bind (NX.fzW u) fun _ => NX.bind (NX.ofO _) fun _ => NX.pure _
theorem pi_enumD {elts : List Expr} {kk : Nat} {tpos : Pos} (hg : Gl X "enumerate") (hm : X.mg "enumerate" = none) (ha : PE X e (T (cf X nm cl E) ca)) (he : starEach [e] X.env = (false, eval e X.env) :: starEach [] X.env) (hs : starEach [e] X.env = [(false, eval e X.env)]) :
    PI X (.Tuple elts kk tpos) (.Call (.Name "enumerate" p) [e] [] pos) (TIr (cf X nm cl E) true fun ρ => ca ρ >>= enumM) := pi_imp (pi_enumB hg hm (pa_one ha he) hs) fun σ H R h => by
  obtain ⟨ρ, st, j, Z, rel, sl, h⟩ := h
  refine T.bind (C := (cf X nm cl E)) (Pk := fun H j st => fun xs st' => ∀ H' j' J P, Rel X.K H' j' st' Z → Keep H j st H' j' st' → Src X.K J true P xs → P H' (Lz j' st' Z) → R J H') (k := enumM) rel sl (fun H' j' st' a s2 k q H2 j2 J P r2 k2 => q H2 j2 J P r2 (k.trans k2)) h fun v w H1 j1 st1 r1 w1 k1 sl1 h1 => ?_
  have h1 := (NX.enumM w).rwp h1
  unfold enumM at h1
  rw [rwp_bind] at h1
  obtain ⟨d, s', q, r', k', dr⟩ := fzW_out r1 w1 h1
  rw [rwp_bind] at q
  obtain ⟨xs, e1, q⟩ := rwp_ofO q
  obtain ⟨b, a, vs, rfl, sd⟩ := SdP.of_seq dr (sqD_inv e1)
  exact ⟨b, a, vs, rfl, sd.sq, q H1 j1 _ _ r' k' src_enum sd⟩
theorem pi_zipD {elts : List Expr} {kk : Nat} {tpos : Pos} (hg : Gl X "zip") (hm : X.mg "zip" = none) (ha : PE X e (T (cf X nm cl E) ca)) (hb : PE X e2 (T (cf X nm cl E) cb)) (he : starEach [e, e2] X.env = (false, eval e X.env) :: starEach [e2] X.env) (he2 : starEach [e2] X.env = (false, eval e2 X.env) :: starEach [] X.env) (hpl : (backTo pos (starEach [e2] X.env)).any (·.1) = false) :
    PI X (.Tuple elts kk tpos) (.Call (.Name "zip" p) [e, e2] [] pos) (TIr (cf X nm cl E) true fun ρ => ca ρ >>= fun x => cb ρ >>= fun y => zipM x y) := pi_imp (pi_zipB hg hm (pa_cons ha (pa_one hb he2) he) he hpl) fun σ H R h => by
  obtain ⟨ρ, st, j, Z, rel, sl, h⟩ := h
  refine T.bind (C := (cf X nm cl E)) (Pk := fun H j st => fun xs st' => ∀ H' j' J P, Rel X.K H' j' st' Z → Keep H j st H' j' st' → Src X.K J true P xs → P H' (Lz j' st' Z) → R J H') (k := fun x => cb ρ >>= fun y => zipM x y) rel sl (fun H' j' st' a s2 k q H2 j2 J P r2 k2 => q H2 j2 J P r2 (k.trans k2)) h fun v w H1 j1 st1 r1 w1 k1 sl1 h1 => ?_
  refine T.bind (C := (cf X nm cl E)) (Pk := fun H j st => fun xs st' => ∀ H' j' J P, Rel X.K H' j' st' Z → Keep H j st H' j' st' → Src X.K J true P xs → P H' (Lz j' st' Z) → R J H') (k := fun y => zipM w y) r1 sl1 (fun H' j' st' a s2 k q H2 j2 J P r2 k2 => q H2 j2 J P r2 (k.trans k2)) h1 fun v2 w2 H2 j2 st2 r2 w2' k2 sl2 h2 => ?_
  have h2 := (NX.zipM w w2).rwp h2
  unfold zipM at h2
  rw [rwp_bind] at h2
  obtain ⟨d, s', q, r', k', dr⟩ := fzW_out r2 (k2.wr w1) h2
  rw [rwp_bind] at q
  obtain ⟨xs, e1, q⟩ := rwp_ofO q
  rw [rwp_bind] at q
  obtain ⟨d', s'', q, r'', k'', dr'⟩ := fzW_out r' (k'.wr w2') q
  rw [rwp_bind] at q
  obtain ⟨ys, e2, q⟩ := rwp_ofO q
  obtain ⟨b1, a, vs, rfl, sd⟩ := SdP.of_seq (k''.dr dr) (sqD_inv e1)
  obtain ⟨b2, b, us, rfl, sd'⟩ := SdP.of_seq dr' (sqD_inv e2)
  exact ⟨b1, b2, a, b, vs, us, rfl, sd.sq, sd'.sq, q H2 j2 _ _ r'' (k'.trans k'') src_zip ⟨sd, sd'⟩⟩
end
end Gd
namespace Gd
open PySem PySem.Spec L2
def OkS (K : PySem.W.Frag) (mg : Str → Option Value) (nm : Nat → Str) (H : Hp) (j : List Addr) (st : Sto) (Z : Addr → Prop) (D : Ends) : Fl × Rho → Sto → Prop := fun p st' => match p.1 with
  | .nx => ∀ σ' H' j', Rel K H' j' st' Z → Slots K mg nm H' j' st' Z σ' p.2 → Keep H j st H' j' st' → D.nx σ' H'
  | .rt w => ∀ v H' j', Rel K H' j' st' Z → Wr K mg nm H' j' st' Z v w → Keep H j st H' j' st' → D.rt v H'
def TSd (C : Cf) (c : Rho → M (Fl × Rho)) : TS := fun D σ H => At C σ H fun ρ st j Z => RWx (c ρ st) (OkS C.K C.mg C.nm H j st Z D) (OkX C.K C.cl H j st Z C.E)
theorem OkS.weak {K : PySem.W.Frag} {mg : Str → Option Value} {nm : Nat → Str} {H H' : Hp} {j j' : List Addr} {st st' : Sto} {Z : Addr → Prop} {D : Ends} {p : Fl × Rho} {s2 : Sto} (h : OkS K mg nm H j st Z D p s2) (k : Keep H j st H' j' st') : OkS K mg nm H' j' st' Z D p s2 := by
  unfold OkS at h ⊢
  cases e : p.1 with
  | nx => rw [e] at h; exact fun σ2 H2 j2 a b c => h σ2 H2 j2 a b (k.trans c)
  | rt w => rw [e] at h; exact fun v H2 j2 a b c => h v H2 j2 a b (k.trans c)
theorem RWx.weakS {K : PySem.W.Frag} {mg : Str → Option Value} {nm : Nat → Str} {cl : Nat → Value × Str} {E : XK} {H H' : Hp} {j j' : List Addr} {st st' : Sto} {Z : Addr → Prop} {D : Ends} {r : Res (Fl × Rho)} (h : RWx r (OkS K mg nm H j st Z D) (OkX K cl H j st Z E)) (k : Keep H j st H' j' st') : RWx r (OkS K mg nm H' j' st' Z D) (OkX K cl H' j' st' Z E) :=
  h.mono (fun a s q => OkS.weak q k) fun c d s q => OkX.weak q k
section
variable {X : Cx} {nm : Nat → Str} {cl : Nat → Value × Str} {E : XK} {ca cb : Rho → M W} {cs cu : Rho → M (Fl × Rho)} {e e2 tg : Expr} {sts sts2 : List Stmt} {stm : Stmt} {p pos : Pos} {tp : Bool} {ws : List Nat} {ct : W → Rho → M Rho}
def andS (cs cu : Rho → M (Fl × Rho)) (ρ : Rho) : M (Fl × Rho) := cs ρ >>= fun p => match p.1 with
  | .nx => cu p.2
  | .rt w => M.pure (.rt w, p.2)
theorem andS_out {H : Hp} {j : List Addr} {st : Sto} {Z : Addr → Prop} {D : Ends} {ρ : Rho} {D' : Ends} (h : RWx (andS cs cu ρ st) (OkS X.K X.mg nm H j st Z D) (OkX X.K cl H j st Z E)) (hr : D'.rt = D.rt) (hn : ∀ σ' H' j' ρ' st', Rel X.K H' j' st' Z → Slots X.K X.mg nm H' j' st' Z σ' ρ' → Keep H j st H' j' st' → RWx (cu ρ' st') (OkS X.K X.mg nm H' j' st' Z D) (OkX X.K cl H' j' st' Z E) → D'.nx σ' H') :
    RWx (cs ρ st) (OkS X.K X.mg nm H j st Z D') (OkX X.K cl H j st Z E) := by
  unfold andS at h
  rw [rwx_bind] at h
  refine h.mono (fun p s1 q => ?_) fun c d s h => h
  obtain ⟨fl, ρ'⟩ := p
  cases fl with
  | nx => exact fun σ' H' j' r sl k => hn σ' H' j' ρ' s1 r sl k (RWx.weakS q k)
  | rt w => exact fun v H' j' r sl k => by rw [hr]; exact q v H' j' r sl k
theorem pss_nilD : PSs X [] (TSd (cf X nm cl E) fun ρ => M.pure (.nx, ρ)) := pss_imp pss_nil fun D σ H h => by
  obtain ⟨ρ, st, j, Z, rel, sl, h⟩ := h
  exact h σ H j rel sl Keep.refl
theorem pss_consD (h1 : PS X stm (TSd (cf X nm cl E) cs)) (h2 : PSs X sts (TSd (cf X nm cl E) cu)) : PSs X (stm :: sts) (TSd (cf X nm cl E) (andS cs cu)) := pss_imp (pss_cons h1 h2) fun D σ H h => by
  obtain ⟨ρ, st, j, Z, rel, sl, h⟩ := h
  exact ⟨ρ, st, j, Z, rel, sl, andS_out h rfl fun σ' H' j' ρ' st' r sl' k q => ⟨ρ', st', j', Z, r, sl', q⟩⟩
theorem ps_skipD (h : PS X stm tNext) : PS X stm (TSd (cf X nm cl E) fun ρ => M.pure (.nx, ρ)) := ps_imp h fun D σ H h => by
  obtain ⟨ρ, st, j, Z, rel, sl, h⟩ := h
  exact h σ H j rel sl Keep.refl
theorem ps_neverD : PS X stm (TSd (cf X nm cl E) fun _ => M.bad) := ps_imp ps_never fun D σ H h => by
  obtain ⟨ρ, st, j, Z, rel, sl, h⟩ := h
  exact h.elim
theorem T.thenS {k : W → M (Fl × Rho)} {R : V → Hp → Prop} {ρ : Rho} {σ : L2.St} {H : Hp} {j : List Addr} {st : Sto} {Z : Addr → Prop} {D : Ends} (rel : Rel X.K H j st Z) (sl : Slots X.K X.mg nm H j st Z σ ρ)
    (h : RWx ((ca ρ >>= k) st) (OkS X.K X.mg nm H j st Z D) (OkX X.K cl H j st Z E))
    (f : ∀ v w H1 j1 st1, Rel X.K H1 j1 st1 Z → Wr X.K X.mg nm H1 j1 st1 Z v w → Keep H j st H1 j1 st1 → Slots X.K X.mg nm H1 j1 st1 Z σ ρ → RWx (k w st1) (OkS X.K X.mg nm H1 j1 st1 Z D) (OkX X.K cl H1 j1 st1 Z E) → R v H1) : T (cf X nm cl E) ca σ H R :=
  T.bind (C := (cf X nm cl E)) (Pk := fun H j st => OkS X.K X.mg nm H j st Z D) (k := k) rel sl (fun H' j' st' a s2 k q => OkS.weak q k) h f
theorem T.asg {σ : L2.St} {H : Hp} {D : Ends} {te : TE} (ht : ∀ σ H Q, T (cf X nm cl E) ca σ H Q → te σ H Q) (h : TSd (cf X nm cl E) (fun ρ => ca ρ >>= fun w => ct w ρ >>= fun ρ' => M.pure (.nx, ρ')) D σ H) : tAsg te (TGd (cf X nm cl E) tp ws ct) D σ H := by
  obtain ⟨ρ, st, j, Z, rel, sl, h⟩ := h
  refine ht _ _ _ (T.thenS (k := fun w => ct w ρ >>= fun ρ' => M.pure (.nx, ρ')) rel sl h fun v w H1 j1 st1 r1 w1 k1 sl1 h1 => ?_)
  refine ⟨w, ρ, st1, j1, Z, r1, sl1, .inl w1, ?_⟩
  rw [rwx_bind] at h1
  exact h1.mono (fun ρ' s q σ' H' j' _ r sl k => q σ' H' j' r sl k) fun c d s h => h
theorem ps_asgD (he : PE X e (T (cf X nm cl E) ca)) (hg : PG X tg (TGd (cf X nm cl E) tp ws ct)) (hs : swapsWithSole [tg] e pos.line X.env = pure false) (hw : swappedStores [tg] e X.env = pure none) (h1 : (assignEach [tg] X.env).map (·.2) = [assign tg X.env]) :
    PS X (.Assign [tg] e pos) (TSd (cf X nm cl E) fun ρ => ca ρ >>= fun w => ct w ρ >>= fun ρ' => M.pure (.nx, ρ')) := ps_imp (ps_asg he hg hs hw h1) fun D σ H h => T.asg (fun _ _ _ q => q) h
theorem ps_exD (he : PE X e (T (cf X nm cl E) ca)) (hs : swapsWith e none pos.line X.env = pure false) : PS X (.Expr e pos) (TSd (cf X nm cl E) fun ρ => ca ρ >>= fun _ => M.pure (.nx, ρ)) := ps_imp (ps_expr he hs) fun D σ H h => by
  obtain ⟨ρ, st, j, Z, rel, sl, h⟩ := h
  exact T.thenS (k := fun _ => M.pure (.nx, ρ)) rel sl h fun v w H1 j1 st1 r1 w1 k1 sl1 h1 => h1 σ H1 j1 r1 sl1 Keep.refl
theorem ps_retD (he : PE X e (T (cf X nm cl E) ca)) : PS X (.Return (some e) pos) (TSd (cf X nm cl E) fun ρ => ca ρ >>= fun w => M.pure (.rt w, ρ)) := ps_imp (ps_ret he) fun D σ H h => by
  obtain ⟨ρ, st, j, Z, rel, sl, h⟩ := h
  exact T.thenS (k := fun w => M.pure (.rt w, ρ)) rel sl h fun v w H1 j1 st1 r1 w1 k1 sl1 h1 => h1 v H1 j1 r1 w1 Keep.refl
theorem ps_retND : PS X (.Return none pos) (TSd (cf X nm cl E) fun ρ => M.pure (.d .none) >>= fun w => M.pure (.rt w, ρ)) := ps_imp ps_retN fun D σ H h => by
  obtain ⟨ρ, st, j, Z, rel, sl, h⟩ := h
  have h : RWx ((M.pure (Fl.rt (.d .none), ρ) : M (Fl × Rho)) st) (OkS X.K X.mg nm H j st Z D) (OkX X.K cl H j st Z E) := h
  exact h .non H j rel .non Keep.refl
theorem ps_iffD {c : Expr} {ctst : Rho → M Bool} (hc : PT X c (TB (cf X nm cl E) ctst)) (ha : PSs X sts (TSd (cf X nm cl E) cs)) (hb : PSs X sts2 (TSd (cf X nm cl E) cu)) : PS X (.If c sts sts2 pos) (TSd (cf X nm cl E) fun ρ => ctst ρ >>= fun b => if b then cs ρ else cu ρ) := ps_imp (ps_if hc ha hb) fun D σ H h => by
  obtain ⟨ρ, st, j, Z, rel, sl, h⟩ := h
  refine TB.bind (Pk := fun H j st => OkS X.K X.mg nm H j st Z D) (k := fun b => if b then cs ρ else cu ρ) rel sl (fun H' j' st' a s2 k q => OkS.weak q k) h fun b H1 j1 st1 r1 k1 sl1 h1 => ?_
  cases b with
  | true => exact ⟨ρ, st1, j1, Z, r1, sl1, h1⟩
  | false => exact ⟨ρ, st1, j1, Z, r1, sl1, h1⟩
theorem ps_parD {i k : Nat} {x y : Str} {a b : Expr} {px py pt : Pos} {kt k2 pt2} (hc : X.calm = true) (hN : X.N.Nodup) (hi : X.N[i]? = some x) (hj : X.N[k]? = some y) (hij : i ≠ k)
    (hx : X.env.scope.names.lookup x = some .local) (hy : X.env.scope.names.lookup y = some .local) (ha : PE X a (T (cf X nm cl E) ca)) (hb : PE X b (T (cf X nm cl E) cb))
    (hse : starEach [a, b] X.env = (false, eval a X.env) :: starEach [b] X.env) (hse2 : starEach [b] X.env = (false, eval b X.env) :: starEach [] X.env)
    (hw : swappedStores [.Tuple [.Name x px, .Name y py] kt pt] (.Tuple [a, b] k2 pt2) X.env = pure (some [x, y]))
    (hs : swapsWithSole [.Tuple [.Name x px, .Name y py] kt pt] (.Tuple [a, b] k2 pt2) pos.line X.env = pure false) :
    PS X (.Assign [.Tuple [.Name x px, .Name y py] kt pt] (.Tuple [a, b] k2 pt2) pos) (TSd (cf X nm cl E) fun ρ => ca ρ >>= fun x => cb ρ >>= fun y => M.pure (.nx, (ρ.set i (some x)).set k (some y))) :=
  ps_imp (ps_par hc hN hi hj hij hx hy (pa_consD ha (pa_consD hb pa_nilD hse2) hse) hw hs) fun D σ H h => by
    obtain ⟨ρ, st, j, Z, rel, sl, h⟩ := h
    refine ⟨ρ, st, j, Z, rel, sl, ?_⟩
    show RWx ((ca ρ >>= fun x => (cb ρ >>= fun y => M.pure [] >>= fun ys => M.pure (y :: ys)) >>= fun xs => M.pure (x :: xs)) st) _ _
    rw [rwx_bind] at h ⊢
    refine h.mono (fun x s1 q => ?_) fun c d s h => h
    rw [rwx_bind] at q
    show RWx ((((cb ρ >>= fun y => M.pure [] >>= fun ys => M.pure (y :: ys)) : M (List W)) >>= fun xs => M.pure (x :: xs)) s1) _ _
    rw [rwx_bind, rwx_bind]
    refine q.mono (fun y s2 q2 => ?_) fun c d s h => h
    intro vs H' j' r w k
    cases w with
    | cons hw1 t1 =>
      cases t1 with
      | cons hw2 t2 =>
        cases t2
        exact ⟨_, _, rfl, q2 _ H' j' r (((k.slots sl).set i hw1).set _ hw2) k⟩
def FG (X : Cx) (nm : Nat → Str) (cl : Nat → Value × Str) (E : XK) (ct : W → Rho → M Rho) (cs : Rho → M (Fl × Rho)) (D : Ends) (Z : Addr → Prop) (P : Hp → (Addr → Prop) → Prop) (xs : List PyData) (i : Nat) : L2.St → Hp → Prop := fun σ' H' =>
  i ≤ xs.length ∧ ∃ ρ' st' j', Rel X.K H' j' st' Z ∧ Slots X.K X.mg nm H' j' st' Z σ' ρ' ∧ P H' (Lz j' st' Z) ∧ RWx (forM (fun x ρ => ct (.d x) ρ >>= fun ρ1 => cs ρ1) (xs.drop i) ρ' st') (OkS X.K X.mg nm H' j' st' Z D) (OkX X.K cl H' j' st' Z E)
theorem T.for_ {ci : Rho → M (List PyData)} {tp' : Bool} (htp : tp = true → tp' = true) {σ : L2.St} {H : Hp} {D : Ends} (h : TSd (cf X nm cl E) (fun ρ => ci ρ >>= fun xs => forM (fun x ρ => ct (.d x) ρ >>= fun ρ1 => cs ρ1) xs ρ) D σ H) : tFor (TIr (cf X nm cl E) tp ci) (TGd (cf X nm cl E) tp' ws ct) (TSd (cf X nm cl E) cs) D σ H := by
  obtain ⟨ρ, st, j, Z, rel, sl, h⟩ := h
  rw [rwx_bind] at h
  refine ⟨ρ, st, j, Z, rel, sl, h.mono (fun xs s1 q H1 j1 J P r1 k1 src p1 => ?_) fun c d s h => h⟩
  refine ⟨fun i m σ' H' => m = xs.length - i ∧ FG X nm cl E ct cs D Z P xs i σ' H',
    ⟨xs.length, rfl, Nat.zero_le _, ρ, s1, j1, r1, k1.slots sl, p1, RWx.weakS q k1⟩, ?_⟩
  rintro i m σ2 H2 ⟨rfl, hi, ρ2, st2, j2, r2, sl2, p2, q2⟩
  by_cases lt : i < xs.length
  · refine .inr ⟨src.go p2 lt, FG X nm cl E ct cs D Z P xs (i + 1), fun σ' H' h => ⟨xs.length - (i + 1), by omega, rfl, h⟩, fun x H3 y => ?_⟩
    obtain ⟨d, e1, e2⟩ := src.yld p2 y lt
    rw [List.drop_eq_getElem_cons lt] at q2
    have ed : xs[i] = d := Option.some.inj ((List.getElem?_eq_getElem lt).symm.trans e1)
    rw [ed] at q2
    have go : ∀ {H3 : Hp}, Keep H2 j2 st2 H3 j2 st2 → Rel X.K H3 j2 st2 Z → Tk X.K X.mg nm H3 j2 st2 Z tp' x (.d d) → TGd (cf X nm cl E) tp' ws ct x σ2 H3 fun σ4 H4 => TSd (cf X nm cl E) cs { D with nx := FG X nm cl E ct cs D Z P xs (i + 1), ct := FG X nm cl E ct cs D Z P xs (i + 1), bk := D.nx } σ4 H4 := by
      intro H3 k3 r3 tk
      refine ⟨.d d, ρ2, st2, j2, Z, r3, k3.slots sl2, tk, ?_⟩
      have q3 : RWx (((ct (.d d) ρ2 >>= fun ρ1 => cs ρ1) >>= fun p => match p.1 with
        | .nx => forM (fun x ρ => ct (.d x) ρ >>= fun ρ1 => cs ρ1) (xs.drop (i + 1)) p.2
        | .rt w => M.pure (.rt w, p.2)) st2) (OkS X.K X.mg nm H2 j2 st2 Z D) (OkX X.K cl H2 j2 st2 Z E) := q2
      rw [rwx_bind, rwx_bind] at q3
      refine q3.mono (fun ρ4 s4 q4 σ4 H4 j4 _ r4 sl4 k4 => ?_) fun c d s q => OkX.weak q k3
      have k24 := k3.trans k4
      refine ⟨ρ4, s4, j4, Z, r4, sl4, q4.mono (fun p s5 q5 => ?_) fun c d s q => OkX.weak q k24⟩
      obtain ⟨fl, ρ5⟩ := p
      cases fl with
      | nx =>
        intro σ5 H5 j5 r5 sl5 k5
        have k25 := k24.trans k5
        exact ⟨lt, ρ5, s5, j5, r5, sl5, src.keep p2 k25.extZ, RWx.weakS q5 k25⟩
      | rt w => exact fun v H5 j5 r5 w5 k5 => q5 v H5 j5 r5 w5 (k24.trans k5)
    rcases e2 with ⟨rfl, dr⟩ | ⟨t1, T, vs, ds, rfl, hT, rfl, rfl, dl⟩
    · exact go Keep.refl r2 (.inl dr)
    · exact go (Keep.new hT) (r2.new hT) (.inr ⟨htp t1, T, vs, ds, rfl, rfl, .inl (.inl upd_same), dl.ext (Keep.new hT).extZ⟩)
  · have e : i = xs.length := by omega
    subst e
    rw [List.drop_length] at q2
    exact .inl ⟨src.stop p2, q2 σ2 H2 j2 r2 sl2 Keep.refl⟩
theorem ps_forD {iter : Expr} {ci : Rho → M (List PyData)} {tp' : Bool} (hp : PassesOwn (model X.prog X.w) X.A X.env X.xe) (hc : X.calm = true) (hi : PI X tg iter (TIr (cf X nm cl E) tp ci)) (hg : PG X tg (TGd (cf X nm cl E) tp' ws ct)) (hb : PSs X sts (TSd (cf X nm cl E) cs)) (htp : tp = true → tp' = true) (hs : ∀ x, foldedSetIterable iter X.env x = pure x) :
    PS X (.For tg iter sts [] pos) (TSd (cf X nm cl E) fun ρ => ci ρ >>= fun xs => forM (fun x ρ => ct (.d x) ρ >>= fun ρ1 => cs ρ1) xs ρ) := ps_imp (ps_for hp hc hi hg hb hs) fun D σ H h => T.for_ htp h
theorem T.wh {cc : Rho → M Bool} {σ : L2.St} {H : Hp} {D : Ends} (n : Nat) (h : TSd (cf X nm cl E) (fun ρ => whM cc cs n ρ) D σ H) : tWhile (TB (cf X nm cl E) cc) (TSd (cf X nm cl E) cs) D σ H := by
  obtain ⟨ρ, st, j, Z, rel, sl, h⟩ := h
  refine ⟨fun m σ' H' => ∃ ρ' st' j', Rel X.K H' j' st' Z ∧ Slots X.K X.mg nm H' j' st' Z σ' ρ' ∧ RWx (whM cc cs m ρ' st') (OkS X.K X.mg nm H' j' st' Z D) (OkX X.K cl H' j' st' Z E), ⟨n, ρ, st, j, rel, sl, h⟩, ?_⟩
  rintro m σ1 H1 ⟨ρ1, st1, j1, r1, sl1, q⟩
  cases m with
  | zero => exact q.elim
  | succ m =>
    have q : RWx ((cc ρ1 >>= fun b => if b then (cs ρ1 >>= fun p => match p.1 with
      | .nx => whM cc cs m p.2
      | .rt w => M.pure (.rt w, p.2)) else M.pure (.nx, ρ1)) st1) (OkS X.K X.mg nm H1 j1 st1 Z D) (OkX X.K cl H1 j1 st1 Z E) := q
    refine TB.bind (Pk := fun H j st => OkS X.K X.mg nm H j st Z D) (k := fun b => if b then (cs ρ1 >>= fun p => match p.1 with
      | .nx => whM cc cs m p.2
      | .rt w => M.pure (.rt w, p.2)) else M.pure (.nx, ρ1)) r1 sl1 (fun H' j' st' a s2 k q => OkS.weak q k) q fun b H2 j2 st2 r2 k2 sl2 h2 => ?_
    cases b with
    | false => exact h2 σ1 H2 j2 r2 sl2 Keep.refl
    | true =>
      rw [if_pos rfl] at h2 ⊢
      rw [rwx_bind] at h2
      refine ⟨fun σ' H' => ∃ ρ' st' j', Rel X.K H' j' st' Z ∧ Slots X.K X.mg nm H' j' st' Z σ' ρ' ∧ RWx (whM cc cs m ρ' st') (OkS X.K X.mg nm H' j' st' Z D) (OkX X.K cl H' j' st' Z E), fun σ' H' h => ⟨m, Nat.lt_succ_self _, h⟩, ρ1, st2, j2, Z, r2, sl2, h2.mono (fun p s3 q3 => ?_) fun c d s h => h⟩
      obtain ⟨fl, ρ3⟩ := p
      cases fl with
      | nx => exact fun σ3 H3 j3 r3 sl3 k3 => ⟨ρ3, s3, j3, r3, sl3, RWx.weakS q3 k3⟩
      | rt w => exact fun v H3 j3 r3 w3 k3 => q3 v H3 j3 r3 w3 k3
theorem ps_whD {c : Expr} {cc : Rho → M Bool} (n : Nat) (hp : PassesOwn (model X.prog X.w) X.A X.env X.xe) (hc : PT X c (TB (cf X nm cl E) cc)) (hb : PSs X sts (TSd (cf X nm cl E) cs)) : PS X (.While c sts [] pos) (TSd (cf X nm cl E) fun ρ => whM cc cs n ρ) := ps_imp (ps_while hp hc hb) fun D σ H h => T.wh n h
end
end Gd
namespace Gd
open PySem PySem.Spec L2
theorem rwx_noX {α β : Type} {m : M α} {k : α → M β} {s : Sto} {P : β → Sto → Prop} {XX : Nat → PyData → Sto → Prop} (h : RWx ((noX m >>= k) s) P XX) : RWp (m s) fun a s' => RWx (k a s') P XX := by
  rw [rwx_bind] at h
  unfold noX at h
  cases e : m s with
  | ok a s' => rw [e] at h; exact h
  | exc c d s' => rw [e] at h; exact h
  | bad => rw [e] at h; exact h
theorem wipe_at {σ : L2.St} {i : Nat} : ∀ {vs : List Nat}, i ∈ vs → (wipe σ vs)[i]? = if i < σ.length then some none else none
  | v :: vs, h => by
    unfold wipe
    by_cases e : v = i
    · subst e
      by_cases lt : v < σ.length
      · rw [List.getElem?_set_self (by rw [wipe_length]; exact lt), if_pos lt]
      · rw [List.getElem?_eq_none (by rw [List.length_set, wipe_length]; omega), if_neg lt]
    · rw [List.getElem?_set_ne e]
      exact wipe_at ((List.mem_cons.mp h).resolve_left fun z => e z.symm)
theorem Agr.wipe {ws vs : List Nat} {σ σ2 : L2.St} (g : Agr ws (wipe σ vs) σ2) (h : ∀ i ∈ ws, i ∈ vs) : wipe σ2 vs = wipe σ vs := by
  have hl : σ2.length = σ.length := by rw [g.1, wipe_length]
  refine List.ext_getElem? fun i => ?_
  by_cases m : i ∈ vs
  · rw [wipe_at m, wipe_at m, hl]
  · rw [wipe_out m]
    exact g.2 i fun z => m (h i z)
section
variable {K : PySem.W.Frag} {mg : Str → Option Value} {nm : Nat → Str} {H H' : Hp} {j : List Addr} {st : Sto} {Z : Addr → Prop}
theorem Wr.ext0 {v : V} {w : W} {Z' : Addr → Prop} (e : Ext H (Lz j st Z) H' (Lz j st Z')) (h : Wr K mg nm H j st Z v w) : Wr K mg nm H' j st Z' v w := by
  cases w with
  | d x => exact Dr.ext e h
  | r l => exact h
  | f n => exact h
  | s ns =>
    obtain ⟨a, rfl, p⟩ := h
    refine ⟨a, rfl, p.elim (fun ⟨o, h, n⟩ => .inl ?_) .inr⟩
    exact ⟨o, e.frz _ _ _ h, (e.old a _ h n (fun ps z => by cases z)).2⟩
theorem Slots.ext0 {σ : L2.St} {ρ : Rho} {Z' : Addr → Prop} (e : Ext H (Lz j st Z) H' (Lz j st Z')) (s : Slots K mg nm H j st Z σ ρ) : Slots K mg nm H' j st Z' σ ρ :=
  ⟨s.len, fun i w h => let ⟨v, p, q⟩ := s.at_ i w h; ⟨v, p, q.ext0 e⟩⟩
theorem Ext.writeZ {D : Addr} {u o : HO} (hu : H D = some u) (nt : ∀ o xs, u ≠ .frz o xs) : Ext H (Lz j st (Zp Z D)) (upd H D o) (Lz j st (Zp Z D)) := Ext.wr hu (.inr (.inr rfl)) nt fun a z => z
theorem Rel.writeZ {D : Addr} {u o : HO} (r : Rel K H j st (Zp Z D)) (hu : H D = some u) (nt : ∀ o xs, u ≠ .frz o xs) : Rel K (upd H D o) j st (Zp Z D) := by
  have ex := Ext.writeZ (j := j) (st := st) (Z := Z) (o := o) hu nt
  have nl : ¬ Lv j st D := (r.own D (.inr rfl)).1
  have ne : ∀ {i : Nat} {c : Bx} (a : Addr), j[i]? = some a → st[i]? = some c → c ≠ .dead → a ≠ D := fun {i c} a h1 h2 h3 z => nl ⟨i, c, by rw [h1, z], h2, h3⟩
  refine ⟨r.len, r.inj, fun i a c h1 h2 => ?_, fun a h => ⟨(r.own a h).1, ?_⟩⟩
  · have ok := r.cell i a c h1 h2
    cases c with
    | dead => trivial
    | lst ds =>
      obtain ⟨vs, e, d⟩ := ok
      exact ⟨vs, by rw [upd_ne (ne a h1 h2 (by simp))]; exact e, d.ext ex⟩
    | dct ds =>
      obtain ⟨vs, e, k, d⟩ := ok
      exact ⟨vs, by rw [upd_ne (ne a h1 h2 (by simp))]; exact e, k, d.ext ex⟩
  · by_cases e : a = D
    · exact ⟨o, by rw [e]; exact upd_same⟩
    · obtain ⟨_, o', e'⟩ := r.own a h
      exact ⟨o', by rw [upd_ne e]; exact e'⟩
theorem Keep.writeN {H0 : Hp} {j0 : List Addr} {st0 : Sto} {D : Addr} {o : HO} (k : Keep H0 j0 st0 H j st) (n : H0 D = none) : Keep H0 j0 st0 (upd H D o) j st := by
  have ne : ∀ {a : Addr} {o : HO}, H0 a = some o → a ≠ D := fun e z => by rw [z, n] at e; cases e
  refine ⟨⟨fun a o e l t => ?_, fun a o u e => by rw [upd_ne (ne e)]; exact k.ext.frz a o u e⟩, k.rf⟩
  rw [upd_ne (ne e)]
  exact k.ext.old a o e l t
end
section
variable {X : Cx} {nm : Nat → Str} {cl : Nat → Value × Str} {E E0 : XK} {ca cb : Rho → M W} {cs cu : Rho → M (Fl × Rho)} {e e2 tg : Expr} {p pos : Pos} {tp tp' : Bool} {ws : List Nat} {ct : W → Rho → M Rho} {cc : Rho → M Bool} {ci : Rho → M (List PyData)}
def turnM (ct : W → Rho → M Rho) (cc : Rho → M Bool) (ca : Rho → M W) (ρ0 : Rho) (x : PyData) : M (Option PyData) := noX (ct (.d x) ρ0 >>= fun ρ1 => cc ρ1 >>= fun ok => if ok then ca ρ1 >>= fun w => fzW w >>= fun y => M.pure (some y) else M.pure none)
def CG (X : Cx) (nm : Nat → Str) (cl : Nat → Value × Str) (E : XK) (H1 : Hp) (j1 : List Addr) (s1 : Sto) (Z : Addr → Prop) (P : Hp → (Addr → Prop) → Prop) (Q : VK) (D : Addr) (f : PyData → M (Option PyData)) (xs : List PyData) (σ0 : L2.St) (ρ0 : Rho) (i : Nat) : Hp → Prop := fun H' =>
  i ≤ xs.length ∧ ∃ st' j' acc ds, Rel X.K H' j' st' (Zp Z D) ∧ Slots X.K X.mg nm H' j' st' (Zp Z D) σ0 ρ0 ∧ P H' (Lz j' st' (Zp Z D)) ∧ H' D = some (.lst acc) ∧ DrL X.K H' (Lz j' st' (Zp Z D)) acc ds ∧ Keep H1 j1 s1 H' j' st' ∧ RWx (compM f (xs.drop i) ds st') (OkN X.K H1 j1 s1 Z Q) (OkX X.K cl H1 j1 s1 Z E)
theorem T.comp {vs : List Nat} (htp : tp = true → tp' = true) (hws : ∀ i ∈ ws, i ∈ vs) {σ : L2.St} {H : Hp} {Q : VK} (h : TN (cf X nm cl E) (fun ρ => ci ρ >>= fun xs => compM (turnM ct cc ca (wipeR ρ vs)) xs []) σ H Q) : tLc (TIr (cf X nm cl E) tp ci) (TGd (cf X nm cl E0) tp' ws ct) (TB (cf X nm cl E0) cc) (T (cf X nm cl E0) ca) vs σ H Q := by
  obtain ⟨ρ, st, j, Z, rel, sl, h⟩ := h
  rw [rwx_bind] at h
  refine ⟨ρ, st, j, Z, rel, sl, h.mono (fun xs s1 q H1 j1 J P r1 k1 src p1 => ?_) fun c d s h => h⟩
  intro D hD
  have q : RWx (compM (turnM ct cc ca (wipeR ρ vs)) xs [] s1) (OkN X.K H1 j1 s1 Z Q) (OkX X.K cl H1 j1 s1 Z E) := q.mono (fun a s q => OkN.weak q k1) fun c d s q => OkX.weak q k1
  have ex1 : Ext H1 (Lz j1 s1 Z) (upd H1 D (.lst [])) (Lz j1 s1 (Zp Z D)) := Ext.new hD fun a z => lz_zp.mp z
  refine ⟨fun i m H' => m = xs.length - i ∧ CG X nm cl E H1 j1 s1 Z P Q D (turnM ct cc ca (wipeR ρ vs)) xs (wipe σ vs) (wipeR ρ vs) i H',
    ⟨xs.length, rfl, Nat.zero_le _, s1, j1, [], [], r1.newZ hD, ((k1.slots sl).wipe vs).ext0 ex1, src.keep p1 ex1, upd_same, .nil, Keep.new hD, q⟩, ?_⟩
  rintro i m H2 ⟨rfl, hi, st2, j2, acc, ds, r2, sl2, p2, hD2, dl2, k2, q2⟩
  by_cases lt : i < xs.length
  · refine .inr ⟨src.go p2 lt, CG X nm cl E H1 j1 s1 Z P Q D (turnM ct cc ca (wipeR ρ vs)) xs (wipe σ vs) (wipeR ρ vs) (i + 1), fun H' h => ⟨xs.length - (i + 1), by omega, rfl, h⟩, fun x H3 y => ?_⟩
    obtain ⟨d, e1, e2⟩ := src.yld p2 y lt
    rw [List.drop_eq_getElem_cons lt] at q2
    have ed : xs[i] = d := Option.some.inj ((List.getElem?_eq_getElem lt).symm.trans e1)
    rw [ed] at q2
    have q2 : RWx ((turnM ct cc ca (wipeR ρ vs) d >>= fun o => match o with
      | some y => if ds.length < SZ then compM (turnM ct cc ca (wipeR ρ vs)) (xs.drop (i + 1)) (ds ++ [y]) else M.bad
      | none => compM (turnM ct cc ca (wipeR ρ vs)) (xs.drop (i + 1)) ds) st2) (OkN X.K H1 j1 s1 Z Q) (OkX X.K cl H1 j1 s1 Z E) := q2
    have q3 := rwx_noX q2
    rw [rwp_bind] at q3
    have go : ∀ {H3 : Hp}, Keep H2 j2 st2 H3 j2 st2 → Rel X.K H3 j2 st2 (Zp Z D) → Tk X.K X.mg nm H3 j2 st2 (Zp Z D) tp' x (.d d) → H3 D = some (.lst acc) → TGd (cf X nm cl E0) tp' ws ct x (wipe σ vs) H3 fun σ2 H2 => wipe σ2 vs = wipe σ vs ∧ TB (cf X nm cl E0) cc σ2 H2 fun b H3 =>
        if b = true then T (cf X nm cl E0) ca σ2 H3 fun y H4 => ∃ acc, H4 D = some (.lst acc) ∧ acc.length < sizeLine ∧ CG X nm cl E H1 j1 s1 Z P Q D (turnM ct cc ca (wipeR ρ vs)) xs (wipe σ vs) (wipeR ρ vs) (i + 1) (upd H4 D (.lst (acc ++ [y]))) else CG X nm cl E H1 j1 s1 Z P Q D (turnM ct cc ca (wipeR ρ vs)) xs (wipe σ vs) (wipeR ρ vs) (i + 1) H3 := by
      intro H3 k3 r3 tk hD3
      refine ⟨.d d, wipeR ρ vs, st2, j2, Zp Z D, r3, k3.slots sl2, tk, (RWp.rwx (X := OkX X.K cl H3 j2 st2 (Zp Z D) E0) q3).mono (fun ρ4 s4 q4 σ4 H4 j4 g4 r4 sl4 k4 => ⟨Agr.wipe g4 hws, ?_⟩) fun _ _ _ q => q⟩
      -- D stays as it is: it is held
      have stay : ∀ {H5 : Hp} {j5 : List Addr} {s5 : Sto}, Keep H3 j2 st2 H5 j5 s5 → Rel X.K H5 j5 s5 (Zp Z D) → H5 D = some (.lst acc) := fun {H5 j5 s5} k5 r5 => by
        obtain ⟨p, _⟩ := k5.ext.old D _ hD3 (r3.own D (.inr rfl)).1 fun ps z => by cases z
        rcases p with p | ⟨z, _⟩
        · exact p
        · cases z
      refine ⟨ρ4, s4, j4, Zp Z D, r4, sl4, ?_⟩
      rw [rwp_bind] at q4
      refine (RWp.rwx (X := OkX X.K cl H4 j4 s4 (Zp Z D) E0) q4).mono (fun b s5 q5 H5 j5 r5 k5 => ?_) fun _ _ _ q => q
      have k25 := k3.trans (k4.trans k5)
      cases b with
      | false =>
        dsimp only
        rw [if_neg Bool.false_ne_true] at q5 ⊢
        exact ⟨lt, s5, j5, acc, ds, r5, k25.slots sl2, src.keep p2 k25.extZ, stay (k4.trans k5) r5, k25.drL dl2, k2.trans k25, q5⟩
      | true =>
        dsimp only
        rw [if_pos rfl] at q5 ⊢
        refine ⟨ρ4, s5, j5, Zp Z D, r5, k5.slots sl4, ?_⟩
        rw [rwp_bind] at q5
        refine (RWp.rwx (X := OkX X.K cl H5 j5 s5 (Zp Z D) E0) q5).mono (fun w s6 q6 v H6 j6 r6 w6 k6 => ?_) fun _ _ _ q => q
        rw [rwp_bind] at q6
        obtain ⟨dy, s7, q7, r7, k7, dr7⟩ := fzW_out r6 w6 q6
        have k57 := k6.trans k7
        have k27 := k25.trans k57
        have hD7 := stay ((k4.trans k5).trans k57) r7
        have q7 : RWx ((if ds.length < SZ then compM (turnM ct cc ca (wipeR ρ vs)) (xs.drop (i + 1)) (ds ++ [dy]) else M.bad) s7) (OkN X.K H1 j1 s1 Z Q) (OkX X.K cl H1 j1 s1 Z E) := q7
        split at q7
        · rename_i hz
          have ex := Ext.writeZ (j := j6) (st := s7) (Z := Z) (o := .lst (acc ++ [v])) hD7 fun o xs z => by cases z
          refine ⟨acc, hD7, by rw [dl2.length, ← SZ_eq]; exact hz, lt, s7, j6, acc ++ [v], ds ++ [dy], r7.writeZ hD7 (fun o xs z => by cases z), (k27.slots sl2).ext0 ex, src.keep p2 (k27.extZ.trans ex), upd_same, (DrL.append (k27.drL dl2) (.cons dr7 .nil)).ext ex, (k2.trans k27).writeN hD, q7⟩
        · exact q7.elim
    rcases e2 with ⟨rfl, dr⟩ | ⟨t1, T, us, es, rfl, hT, rfl, rfl, dl⟩
    · exact go Keep.refl r2 (.inl dr) hD2
    · exact go (Keep.new hT) (r2.new hT) (.inr ⟨htp t1, T, us, es, rfl, rfl, .inl (.inl upd_same), dl.ext (Keep.new hT).extZ⟩) (by rw [upd_ne (ne_of_none hD2 hT)]; exact hD2)
  · have e : i = xs.length := by omega
    subst e
    rw [List.drop_length] at q2
    exact .inl ⟨src.stop p2, q2 D acc H2 j2 (Fr.of hD) hD2 (fun z => (r1.fresh hD) (.inr z)) dl2 r2 k2⟩
end
end Gd
namespace Gd
open PySem PySem.Spec L2 PyProof.Rows
theorem NX.keyM (w : W) : NX (keyM w) := by
  unfold Gd.keyM
  split
  · exact NX.pure _
  · exact NX.pure _
  · exact NX.bad
theorem NX.starM (w : W) : NX (starM w) := NX.bind (NX.rd w) fun _ => NX.ofO _
theorem NX.dctN (w : W) : NX (dctN w) := NX.bind (NX.rd w) fun _ => NX.bind (NX.ofO _) fun _ => NX.bind (NX.ofO _) fun _ => NX.ite (NX.pure _) NX.bad
theorem NX.modDc (ρ : Rho) (i : Nat) (k : List (PyData × PyData) → Option (List (PyData × PyData))) : NX (modDc ρ i k) := by
  intro s c d s' e
  unfold Gd.modDc at e
  cases h : ρ[i]? with
  | none => rw [h] at e; cases e
  | some o =>
    rw [h] at e
    cases o with
    | none => cases e
    | some w =>
      cases w with
      | r l =>
        dsimp only at e
        cases h2 : s[l]? with
        | none => rw [h2] at e; cases e
        | some c2 =>
          rw [h2] at e
          cases c2 with
          | dct xs =>
            dsimp only at e
            cases h3 : k xs with
            | none => rw [h3] at e; cases e
            | some ys => rw [h3] at e; cases e
          | lst xs => cases e
          | dead => cases e
      | d d => cases e
      | f n => cases e
      | s ns => cases e
theorem mb_assoc {α β γ : Type} (m : M α) (k : α → M β) (l : β → M γ) : (m >>= k) >>= l = m >>= fun a => k a >>= l := by
  show M.bind (M.bind m k) l = M.bind m fun a => M.bind (k a) l
  funext s
  unfold M.bind
  cases m s <;> rfl
section
variable {K : PySem.W.Frag} {mg : Str → Option Value} {nm : Nat → Str} {H H' : Hp} {j j' : List Addr} {st st' s : Sto} {Z : Addr → Prop}
def OkD (K : PySem.W.Frag) (H : Hp) (j : List Addr) (st : Sto) (Z : Addr → Prop) (Q : VK) : List (PyData × PyData) → Sto → Prop := fun ds st' =>
  ∀ p (kvs : List (Key × V)) H' j', Fr H j st p → H' p = some (.dK kvs) → ¬ Z p → ds.map (·.1) = kvs.map (fun q => keyD q.1) → DrL K H' (Lz j' st' (Zp Z p)) (kvs.map (·.2)) (ds.map (·.2)) → Rel K H' j' st' (Zp Z p) → Keep H j st H' j' st' → Q (.ref p) H'
theorem OkD.weak {Q : VK} {w : List (PyData × PyData)} {s2 : Sto} (h : OkD K H j st Z Q w s2) (k : Keep H j st H' j' st') : OkD K H' j' st' Z Q w s2 := fun p vs H2 j2 f a b c d e g => h p vs H2 j2 (f.back k) a b c d e (k.trans g)
theorem OkD.new {Q : VK} {ds : List (PyData × PyData)} {kvs : List (Key × V)} {p : Addr} (h : OkD K H j st Z Q ds st) (r : Rel K H j st Z) (e : ds.map (·.1) = kvs.map (fun q => keyD q.1)) (x : DrL K H (Lz j st Z) (kvs.map (·.2)) (ds.map (·.2))) (hp : H p = none) : Q (.ref p) (upd H p (.dK kvs)) :=
  h p kvs _ j (Fr.of hp) upd_same (fun z => r.fresh hp (.inr z)) e (x.ext (Ext.new hp fun a z => lz_zp.mp z)) (r.newZ hp) (Keep.new hp)
def TD (C : Cf) (c : Rho → M (List (PyData × PyData))) : TE := fun σ H Q => At C σ H fun ρ st j Z => RWx (c ρ st) (OkD C.K H j st Z Q) (OkX C.K C.cl H j st Z C.E)
def liftD1 (K : PySem.W.Frag) (mg : Str → Option Value) (nm : Nat → Str) (f : W → M (List (PyData × PyData))) : V → Hp → VK → Prop := fun v H Q => ∃ w st j Z, Rel K H j st Z ∧ Wr K mg nm H j st Z v w ∧ RWp (f w st) (OkD K H j st Z Q)
theorem put_rel {L : Addr → Prop} {k : Key} {v : V} {d : PyData} (dv : Dr K H L v d) : ∀ {kvs : List (Key × V)} {ds : List (PyData × PyData)}, ds.map (·.1) = kvs.map (fun q => keyD q.1) → DrL K H L (kvs.map (·.2)) (ds.map (·.2)) →
    (ds.any fun p => PyData.eqv p.1 (keyD k)) = (kvs.any fun q => decide (q.1 = k)) ∧
    (ds.map fun p => if PyData.eqv p.1 (keyD k) then (p.1, d) else p).map (·.1) = (kvs.map fun q => if q.1 = k then (q.1, v) else q).map (fun q => keyD q.1) ∧
    DrL K H L ((kvs.map fun q => if q.1 = k then (q.1, v) else q).map (·.2)) ((ds.map fun p => if PyData.eqv p.1 (keyD k) then (p.1, d) else p).map (·.2))
  | [], [], _, _ => ⟨rfl, rfl, .nil⟩
  | [], _ :: _, e, _ => by cases e
  | _ :: _, [], e, _ => by cases e
  | q :: kvs, p :: ds, e, h => by
    simp only [List.map_cons, List.cons.injEq] at e
    cases h with
    | cons h1 h2 =>
      obtain ⟨a, b, c⟩ := put_rel (k := k) dv e.2 h2
      have eq : PyData.eqv p.1 (keyD k) = decide (q.1 = k) := by rw [e.1, eqv_keyD]
      refine ⟨by rw [List.any_cons, List.any_cons, eq, a], ?_, ?_⟩
      · rw [List.map_cons, List.map_cons, List.map_cons, List.map_cons, b, eq]
        by_cases z : q.1 = k
        · simp [z, ← e.1]
          rw [e.1, z]
        · simp [z, e.1]
      · rw [List.map_cons, List.map_cons, List.map_cons, List.map_cons, eq]
        refine .cons ?_ c
        by_cases z : q.1 = k
        · simp [z]; exact dv
        · simp [z]; exact h1
theorem put_ok {kvs : List (Key × V)} {ds : List (PyData × PyData)} {L : Addr → Prop} {k : Key} {v : V} {d : PyData} (dv : Dr K H L v d) (e : ds.map (·.1) = kvs.map (fun q => keyD q.1)) (h : DrL K H L (kvs.map (·.2)) (ds.map (·.2))) :
    (putD (keyD k) d ds).map (·.1) = (putK kvs k v).map (fun q => keyD q.1) ∧ DrL K H L ((putK kvs k v).map (·.2)) ((putD (keyD k) d ds).map (·.2)) := by
  obtain ⟨a, b, c⟩ := put_rel (k := k) dv e h
  unfold putD putK
  rw [a]
  split
  · exact ⟨b, c⟩
  · rw [List.map_append, List.map_append, List.map_append, List.map_append, e]
    exact ⟨rfl, h.append (.cons dv .nil)⟩
theorem keyM_out {v : V} {w : W} {P : PyData → Sto → Prop} (h : Wr K mg nm H j s Z v w) (q : RWp (keyM w s) P) : ∃ k : Key, v = kV k ∧ P (keyD k) s := by
  cases w with
  | d x =>
    cases x with
    | int i => cases h; exact ⟨.inl i, rfl, q⟩
    | str x => cases h; exact ⟨.inr x, rfl, q⟩
    | _ => exact q.elim
  | r l => exact q.elim
  | f n => exact q.elim
  | s ns => exact q.elim
theorem Rel.writeD {l : Nat} {a : Addr} {xs ds : List (PyData × PyData)} {us vs : List (Key × V)} (r : Rel K H j s Z) (ha : j[l]? = some a) (hs : s[l]? = some (.dct xs)) (hu : H a = some (.dK us)) (e : ds.map (·.1) = vs.map (fun q => keyD q.1)) (d : DrL K H (Lz j s Z) (vs.map (·.2)) (ds.map (·.2))) :
    Rel K (upd H a (.dK vs)) j (s.set l (.dct ds)) Z ∧ Keep H j s (upd H a (.dK vs)) j (s.set l (.dct ds)) ∧ ∀ b, Lz j (s.set l (.dct ds)) Z b → Lz j s Z b := by
  have la : Lv j s a := ⟨l, _, ha, hs, by simp⟩
  exact r.write ha hs (by simp) (by simp) hu (fun o xs z => by cases z) ⟨vs, upd_same, e, d.ext (Ext.wr hu (.inl la) (fun o xs z => by cases z) fun b q => q)⟩
theorem chkDc_out {α : Type} {ρ : Rho} {i : Nat} {k : Unit → M α} {P : α → Sto → Prop} {XX : Nat → PyData → Sto → Prop} (h : RWx ((chkDc ρ i >>= k) s) P XX) : ∃ l xs, ρ[i]? = some (some (.r l)) ∧ s[l]? = some (.dct xs) ∧ RWx (k () s) P XX := by
  rw [rwx_bind] at h
  unfold chkDc at h
  cases e : ρ[i]? with
  | none => rw [e] at h; exact h.elim
  | some o =>
    cases o with
    | none => rw [e] at h; exact h.elim
    | some w =>
      cases w with
      | r l =>
        rw [e] at h
        dsimp only at h
        cases e2 : s[l]? with
        | none => rw [e2] at h; exact h.elim
        | some c =>
          cases c with
          | dct xs => rw [e2] at h; exact ⟨l, xs, rfl, e2, h⟩
          | lst k => rw [e2] at h; exact h.elim
          | dead => rw [e2] at h; exact h.elim
      | d d => rw [e] at h; exact h.elim
      | f n => rw [e] at h; exact h.elim
      | s n => rw [e] at h; exact h.elim
theorem modDc_out {ρ : Rho} {i l : Nat} {f : List (PyData × PyData) → Option (List (PyData × PyData))} {P : Unit → Sto → Prop} (e : ρ[i]? = some (some (.r l))) (h : RWp (modDc ρ i f s) P) : ∃ xs ys, s[l]? = some (.dct xs) ∧ f xs = some ys ∧ P () (s.set l (.dct ys)) := by
  unfold modDc at h
  rw [e] at h
  dsimp only at h
  cases e2 : s[l]? with
  | none => rw [e2] at h; exact h.elim
  | some c =>
    rw [e2] at h
    cases c with
    | dct xs =>
      dsimp only at h
      cases e3 : f xs with
      | none => rw [e3] at h; exact h.elim
      | some ys => rw [e3] at h; exact ⟨xs, ys, rfl, e3, h⟩
    | lst k => exact h.elim
    | dead => exact h.elim
end
section
variable {X : Cx} {nm : Nat → Str} {cl : Nat → Value × Str} {E E0 : XK} {ca cb ck : Rho → M W} {cs cu : Rho → M (Fl × Rho)} {e e2 tg : Expr} {es : List Expr} {sts : List Stmt} {p pos : Pos} {tp tp' : Bool} {ws : List Nat} {ct : W → Rho → M Rho} {cc : Rho → M Bool} {ci : Rho → M (List PyData)} {cn : Rho → M (List (PyData × PyData))} {i : Nat} {x : Str}
theorem T.frzD {σ : L2.St} {H : Hp} {Q : VK} (h : T (cf X nm cl E) (fun ρ => cn ρ >>= fun xs => M.pure (.d (.dict xs))) σ H Q) : TD (cf X nm cl E) cn σ H Q := by
  obtain ⟨ρ, st, j, Z, rel, sl, h⟩ := h
  refine ⟨ρ, st, j, Z, rel, sl, ?_⟩
  rw [rwx_bind] at h
  exact h.mono (fun ds s1 q p vs H1 j1 f hp nz e d r k => q _ H1 j1 (r.less fun a z => .inl z) (.dK (.inl hp) (fun z => z.elim (r.own p (.inr rfl)).1 nz) e (d.mono fun a z => lz_zp.mpr (.inl z))) k) fun c d s h => h
theorem T.cellDc {σ : L2.St} {H : Hp} {Q : VK} (h : T (cf X nm cl E) (fun ρ => cn ρ >>= fun xs => newCell (.dct xs)) σ H Q) : TD (cf X nm cl E) cn σ H Q := by
  obtain ⟨ρ, st, j, Z, rel, sl, h⟩ := h
  refine ⟨ρ, st, j, Z, rel, sl, ?_⟩
  rw [rwx_bind] at h
  refine h.mono (fun ds s1 q p vs H1 j1 f hp nz e d r k => ?_) fun c d s h => h
  refine q (.ref p) H1 (j1 ++ [p]) (r.push nz ⟨vs, hp, e, d⟩) ⟨p, rfl, ?_⟩ (k.push r.len f)
  rw [← r.len]
  simp
theorem pe_frzDD (h : PE X e (TD (cf X nm cl E) cn)) : PE X e (T (cf X nm cl E) fun ρ => cn ρ >>= fun xs => M.pure (.d (.dict xs))) := pe_imp h fun σ H Q q => T.frzD q
theorem pe_cellDD (h : PE X e (TD (cf X nm cl E) cn)) : PE X e (T (cf X nm cl E) fun ρ => cn ρ >>= fun xs => newCell (.dct xs)) := pe_imp h fun σ H Q q => T.cellDc q
theorem cr_dctN {mg : Str → Option Value} (hc : X.calm = true) : CallR X (.type "dict") (fun vs H Q => ∃ x, vs = [x] ∧ liftD1 X.K mg nm dctN x H Q) := by
  intro pins s σ H vs us Q I r h
  obtain ⟨x, rfl, w, st, j, Z, rl, hw, q⟩ := h
  unfold dctN at q
  rw [rwp_bind] at q
  obtain ⟨d, q, vd⟩ := rd_rv rl hw q
  rw [rwp_bind] at q
  obtain ⟨ps, e1, q⟩ := rwp_ofO q
  rw [rwp_bind] at q
  obtain ⟨kvs, e2, q⟩ := rwp_ofO q
  split at q
  case isFalse => exact q.elim
  rename_i ok
  unfold okDct at ok
  simp only [Bool.and_eq_true, decide_eq_true_eq] at ok
  have q : OkD X.K H j st Z Q kvs st := q
  have fin : ∀ (as : List Addr) (kv : List (Key × V)), kvs.map (·.1) = kv.map (fun q => keyD q.1) → DrL X.K H (Lz j st Z) (kv.map (·.2)) (kvs.map (·.2)) → ∀ p, H p = none → Q (.ref p) (upd H p (.dK (mergeK [] kv))) := fun as kv ek ed p hp => by
    have nd : (kv.map (·.1)).Nodup := keys_nodup (by
      have := ok.2
      rw [ek] at this
      rw [List.map_map]
      refine this.trans ?_
      have := congrArg List.length ek
      simpa using this)
    rw [merge_new kv [] (by simpa using nd), List.nil_append]
    exact q.new rl ek ed hp
  cases d with
  | list xs =>
    cases e1
    obtain ⟨a, ws, rfl, h1, g⟩ := vd.list_inv
    obtain ⟨as, kv, rfl, pr, ek, ed⟩ := dct_pairs e2 g
    exact call_dictP hc pins s σ H _ us Q I r ⟨a, as, kv, rfl, .inl (.inl h1), pr, fin as kv ek ed⟩
  | tuple xs =>
    cases e1
    obtain ⟨a, ws, rfl, h1, g⟩ := vd.tup_inv
    obtain ⟨as, kv, rfl, pr, ek, ed⟩ := dct_pairs e2 g
    exact call_dictT hc pins s σ H _ us Q I r ⟨a, as, kv, rfl, h1, pr, fin as kv ek ed⟩
  | none => cases e1
  | bool b => cases e1
  | int b => cases e1
  | str b => cases e1
  | dict b => cases e1
theorem pe_dctND (F : Fit X) (hg : Gl X "dict") (hm : X.mg "dict" = none) (ha : PE X e (T (cf X nm cl E) ca)) (he : starEach [e] X.env = (false, eval e X.env) :: starEach [] X.env) (hpl : (backTo pos (starEach [] X.env)).any (·.1) = false) :
    PE X (.Call (.Name "dict" p) [e] [] pos) (TD (cf X nm cl E) fun ρ => ca ρ >>= dctN) := by
  refine pe_imp (pe_callTy (cr_dctN (mg := X.mg) (nm := nm) F.calm) hg hm boot_b15 (pa_one ha he) (by decide) (by decide) he hpl) fun σ H Q h => ?_
  obtain ⟨ρ, st, j, Z, rel, sl, h⟩ := h
  refine T.bind (C := (cf X nm cl E)) (Pk := fun H j st => OkD X.K H j st Z Q) (k := dctN) rel sl (fun H' j' st' a s2 k q => q.weak k) h fun v w H1 j1 st1 r1 w1 k1 sl1 h1 => ?_
  exact ⟨v, rfl, w, st1, j1, Z, r1, w1, (NX.dctN w).rwp h1⟩
theorem wr_dats {K : PySem.W.Frag} {mg : Str → Option Value} {H : Hp} {j : List Addr} {st : Sto} {Z : Addr → Prop} : ∀ {vs : List V} {ds : List PyData}, DrL K H (Lz j st Z) vs ds → WrL K mg nm H j st Z vs (ds.map W.d)
  | _, _, .nil => .nil
  | _, _, .cons h t => .cons h (wr_dats t)
theorem wr_app {K : PySem.W.Frag} {mg : Str → Option Value} {H : Hp} {j : List Addr} {st : Sto} {Z : Addr → Prop} : ∀ {vs us : List V} {ws xs : List W}, WrL K mg nm H j st Z vs ws → WrL K mg nm H j st Z us xs → WrL K mg nm H j st Z (vs ++ us) (ws ++ xs)
  | _, _, _, _, .nil, h => h
  | _, _, _, _, .cons h t, h2 => .cons h (wr_app t h2)
theorem pa_starD {cr : Rho → M (List W)} (ha : PE X e (T (cf X nm cl E) ca)) (hr : PA X es (TAr (cf X nm cl E) cr)) : PA X (.Starred e p :: es) (TAr (cf X nm cl E) fun ρ => ca ρ >>= fun x => starM x >>= fun ds => cr ρ >>= fun xs => M.pure (ds.map W.d ++ xs)) := pa_imp (StX.pa_star ha hr rfl) fun σ H Q h => by
  obtain ⟨ρ, st, j, Z, rel, sl, h⟩ := h
  refine T.bind (C := (cf X nm cl E)) (Pk := fun H j st => OkA X.K X.mg nm H j st Z Q) (k := fun x => starM x >>= fun ds => cr ρ >>= fun xs => M.pure (ds.map W.d ++ xs)) rel sl (fun H' j' st' a s2 k q => q.weak k) h fun v w H1 j1 st1 r1 w1 k1 sl1 h1 => ?_
  rw [rwx_bind] at h1
  have h1 := (NX.starM w).rwp h1
  unfold starM at h1
  rw [rwp_bind] at h1
  obtain ⟨d, q, vd⟩ := rd_rv r1 w1 h1
  obtain ⟨ds, e1, q⟩ := rwp_ofO q
  have go : ∀ {a : Addr} {vs : List V}, DrL X.K H1 (Lz j1 st1 Z) vs ds → TAr (cf X nm cl E) cr σ H1 fun ys H2 => Q (vs ++ ys) H2 := fun {a vs} dl => by
    refine ⟨ρ, st1, j1, Z, r1, sl1, ?_⟩
    have q : RWx ((cr ρ >>= fun xs => M.pure (ds.map W.d ++ xs)) st1) (OkA X.K X.mg nm H1 j1 st1 Z Q) (OkX X.K cl H1 j1 st1 Z E) := q
    rw [rwx_bind] at q
    exact q.mono (fun ws s2 q2 vs2 H2 j2 r2 w2 k2 => q2 (vs ++ vs2) H2 j2 r2 (wr_app (wr_dats (k2.drL dl)) w2) k2) fun c d s h => h
  cases d with
  | list xs =>
    cases e1
    obtain ⟨a, vs, rfl, h2, g⟩ := vd.list_inv
    exact ⟨a, vs, rfl, .inr (.inl (.inl h2)), go (a := a) g⟩
  | tuple xs =>
    cases e1
    obtain ⟨a, vs, rfl, h2, g⟩ := vd.tup_inv
    exact ⟨a, vs, rfl, .inl h2.sqt, go (a := a) g⟩
  | none => cases e1
  | bool b => cases e1
  | int b => cases e1
  | str b => cases e1
  | dict b => cases e1
def turnD (ct : W → Rho → M Rho) (cc : Rho → M Bool) (ck ca : Rho → M W) (ρ0 : Rho) (x : PyData) : M (Option (PyData × PyData)) := noX (ct (.d x) ρ0 >>= fun ρ1 => cc ρ1 >>= fun ok => if ok then ck ρ1 >>= fun z => ca ρ1 >>= fun w => keyM z >>= fun kd => fzW w >>= fun y => M.pure (some (kd, y)) else M.pure none)
def DG (X : Cx) (nm : Nat → Str) (cl : Nat → Value × Str) (E : XK) (H1 : Hp) (j1 : List Addr) (s1 : Sto) (Z : Addr → Prop) (P : Hp → (Addr → Prop) → Prop) (Q : VK) (D : Addr) (l : Nat) (f : PyData → M (Option (PyData × PyData))) (xs : List PyData) (σ0 : L2.St) (ρ0 : Rho) (i : Nat) : Hp → Prop := fun H' =>
  i ≤ xs.length ∧ ∃ st' j', Rel X.K H' j' st' Z ∧ Slots X.K X.mg nm H' j' st' Z σ0 ρ0 ∧ P H' (Lz j' st' Z) ∧ j'[l]? = some D ∧ Keep H1 j1 s1 H' j' st' ∧ RWx ((dcompM l f (xs.drop i) >>= fun _ => M.pure (W.r l)) st') (OkW X.K X.mg nm H1 j1 s1 Z Q) (OkX X.K cl H1 j1 s1 Z E)
theorem putC_out {l : Nat} {p : PyData × PyData} {P : Unit → Sto → Prop} {s : Sto} (h : RWp (putC l p s) P) : ∃ xs, s[l]? = some (.dct xs) ∧ xs.length < SZ ∧ P () (s.set l (.dct (putD p.1 p.2 xs))) := by
  unfold putC at h
  cases e2 : s[l]? with
  | none => rw [e2] at h; exact h.elim
  | some c =>
    rw [e2] at h
    cases c with
    | dct xs =>
      dsimp only at h
      split at h
      · rename_i hz
        exact ⟨xs, rfl, hz, h⟩
      · exact h.elim
    | lst k => exact h.elim
    | dead => exact h.elim
theorem NX.putC (l : Nat) (p : PyData × PyData) : NX (putC l p) := by
  intro s c d s' e
  unfold Gd.putC at e
  split at e
  · split at e
    · cases e
    · cases e
  · cases e
theorem T.dcomp {vs : List Nat} (htp : tp = true → tp' = true) (hws : ∀ i ∈ ws, i ∈ vs) {σ : L2.St} {H : Hp} {Q : VK} (h : T (cf X nm cl E) (fun ρ => ci ρ >>= fun xs => newDc >>= fun l => dcompM l (turnD ct cc ck ca (wipeR ρ vs)) xs >>= fun _ => M.pure (W.r l)) σ H Q) : tDc (TIr (cf X nm cl E) tp ci) (TGd (cf X nm cl E0) tp' ws ct) (TB (cf X nm cl E0) cc) (T (cf X nm cl E0) ck) (T (cf X nm cl E0) ca) vs σ H Q := by
  obtain ⟨ρ, st, j, Z, rel, sl, h⟩ := h
  rw [rwx_bind] at h
  refine ⟨ρ, st, j, Z, rel, sl, h.mono (fun xs s1 q H1 j1 J P r1 k1 src p1 => ?_) fun c d s h => h⟩
  intro D hD
  have q : RWx ((dcompM s1.length (turnD ct cc ck ca (wipeR ρ vs)) xs >>= fun _ => M.pure (W.r s1.length)) (s1 ++ [.dct []])) (OkW X.K X.mg nm H j st Z Q) (OkX X.K cl H j st Z E) := q
  have q := q.mono (fun a s q => OkW.weak q k1) fun c d s q => OkX.weak q k1
  have nD : ¬ Z D := fun z => r1.fresh hD (.inr z)
  have r0 : Rel X.K (upd H1 D (.dK [])) (j1 ++ [D]) (s1 ++ [.dct []]) Z := (r1.newZ hD).push nD ⟨[], upd_same, rfl, .nil⟩
  have k0 : Keep H1 j1 s1 (upd H1 D (.dK [])) (j1 ++ [D]) (s1 ++ [.dct []]) := (Keep.new hD).push r1.len (Fr.of hD)
  have jl : (j1 ++ [D])[s1.length]? = some D := by rw [← r1.len]; simp
  refine ⟨fun i m H' => m = xs.length - i ∧ DG X nm cl E H1 j1 s1 Z P Q D s1.length (turnD ct cc ck ca (wipeR ρ vs)) xs (wipe σ vs) (wipeR ρ vs) i H',
    ⟨xs.length, rfl, Nat.zero_le _, s1 ++ [.dct []], j1 ++ [D], r0, ((k1.trans k0).slots sl).wipe vs, src.keep p1 k0.extZ, jl, k0, (by rw [List.drop_zero]; exact q)⟩, ?_⟩
  rintro i m H2 ⟨rfl, hi, st2, j2, r2, sl2, p2, jl2, k2, q2⟩
  by_cases lt : i < xs.length
  · refine .inr ⟨src.go p2 lt, DG X nm cl E H1 j1 s1 Z P Q D s1.length (turnD ct cc ck ca (wipeR ρ vs)) xs (wipe σ vs) (wipeR ρ vs) (i + 1), fun H' h => ⟨xs.length - (i + 1), by omega, rfl, h⟩, fun x H3 y => ?_⟩
    obtain ⟨d, e1, e2⟩ := src.yld p2 y lt
    rw [List.drop_eq_getElem_cons lt] at q2
    have ed : xs[i] = d := Option.some.inj ((List.getElem?_eq_getElem lt).symm.trans e1)
    rw [ed] at q2
    have q2 : RWx (((turnD ct cc ck ca (wipeR ρ vs) d >>= fun o => match o with
      | some p => putC s1.length p >>= fun _ => dcompM s1.length (turnD ct cc ck ca (wipeR ρ vs)) (xs.drop (i + 1))
      | none => dcompM s1.length (turnD ct cc ck ca (wipeR ρ vs)) (xs.drop (i + 1))) >>= fun _ => M.pure (W.r s1.length)) st2) (OkW X.K X.mg nm H1 j1 s1 Z Q) (OkX X.K cl H1 j1 s1 Z E) := q2
    rw [mb_assoc] at q2
    have q3 := rwx_noX q2
    rw [rwp_bind] at q3
    have go : ∀ {H3 : Hp}, Keep H2 j2 st2 H3 j2 st2 → Rel X.K H3 j2 st2 Z → Tk X.K X.mg nm H3 j2 st2 Z tp' x (.d d) → TGd (cf X nm cl E0) tp' ws ct x (wipe σ vs) H3 fun σ2 H2 => wipe σ2 vs = wipe σ vs ∧ TB (cf X nm cl E0) cc σ2 H2 fun b H3 =>
        if b = true then T (cf X nm cl E0) ck σ2 H3 fun y H4 => T (cf X nm cl E0) ca σ2 H4 fun z H5 => ∃ kvs k, y = kV k ∧ H5 D = some (.dK kvs) ∧ kvs.length < sizeLine ∧ DG X nm cl E H1 j1 s1 Z P Q D s1.length (turnD ct cc ck ca (wipeR ρ vs)) xs (wipe σ vs) (wipeR ρ vs) (i + 1) (upd H5 D (.dK (putK kvs k z))) else DG X nm cl E H1 j1 s1 Z P Q D s1.length (turnD ct cc ck ca (wipeR ρ vs)) xs (wipe σ vs) (wipeR ρ vs) (i + 1) H3 := by
      intro H3 k3 r3 tk
      refine ⟨.d d, wipeR ρ vs, st2, j2, Z, r3, k3.slots sl2, tk, (RWp.rwx (X := OkX X.K cl H3 j2 st2 Z E0) q3).mono (fun ρ4 s4 q4 σ4 H4 j4 g4 r4 sl4 k4 => ⟨Agr.wipe g4 hws, ?_⟩) fun _ _ _ q => q⟩
      refine ⟨ρ4, s4, j4, Z, r4, sl4, ?_⟩
      rw [rwp_bind] at q4
      refine (RWp.rwx (X := OkX X.K cl H4 j4 s4 Z E0) q4).mono (fun b s5 q5 H5 j5 r5 k5 => ?_) fun _ _ _ q => q
      have k25 := k3.trans (k4.trans k5)
      cases b with
      | false =>
        dsimp only
        rw [if_neg Bool.false_ne_true] at q5 ⊢
        exact ⟨lt, s5, j5, r5, k25.slots sl2, src.keep p2 k25.extZ, k25.rf _ _ jl2, k2.trans k25, q5⟩
      | true =>
        dsimp only
        rw [if_pos rfl] at q5 ⊢
        refine ⟨ρ4, s5, j5, Z, r5, k5.slots sl4, ?_⟩
        rw [rwp_bind] at q5
        refine (RWp.rwx (X := OkX X.K cl H5 j5 s5 Z E0) q5).mono (fun wk s6 q6 vk H6 j6 r6 w6 k6 => ?_) fun _ _ _ q => q
        refine ⟨ρ4, s6, j6, Z, r6, (k5.trans k6).slots sl4, ?_⟩
        rw [rwp_bind] at q6
        refine (RWp.rwx (X := OkX X.K cl H6 j6 s6 Z E0) q6).mono (fun wv s7 q7 vv H7 j7 r7 w7 k7 => ?_) fun _ _ _ q => q
        rw [rwp_bind] at q7
        obtain ⟨k, rfl, q7⟩ := keyM_out (k7.wr w6) q7
        rw [rwp_bind] at q7
        obtain ⟨dy, s8, q8, r8, k8, dr8⟩ := fzW_out r7 w7 q7
        have k58 := (k6.trans k7).trans k8
        have k28 := k25.trans k58
        have q8 : RWx (((putC s1.length (keyD k, dy) >>= fun _ => dcompM s1.length (turnD ct cc ck ca (wipeR ρ vs)) (xs.drop (i + 1))) >>= fun _ => M.pure (W.r s1.length)) s8) (OkW X.K X.mg nm H1 j1 s1 Z Q) (OkX X.K cl H1 j1 s1 Z E) := q8
        rw [mb_assoc, rwx_bind] at q8
        have q8 := (NX.putC s1.length (keyD k, dy)).rwp q8
        obtain ⟨ds, e8, hz, q8⟩ := putC_out q8
        have jl8 := k28.rf _ _ jl2
        obtain ⟨us, hu2, ek, hd2⟩ := r8.cell _ D _ jl8 e8
        obtain ⟨b1, b2⟩ := put_ok (k := k) dr8 ek hd2
        obtain ⟨r9, k9, _⟩ := r8.writeD jl8 e8 hu2 b1 b2
        have hl : us.length < sizeLine := by
          have := congrArg List.length ek
          rw [List.length_map, List.length_map] at this
          rw [← this, ← SZ_eq]; exact hz
        exact ⟨us, k, rfl, hu2, hl, lt, _, j7, r9, (k28.trans k9).slots sl2, src.keep p2 (k28.trans k9).extZ, k9.rf _ _ jl8, k2.trans (k28.trans k9), q8⟩
    rcases e2 with ⟨rfl, dr⟩ | ⟨t1, T, us, es, rfl, hT, rfl, rfl, dl⟩
    · exact go Keep.refl r2 (.inl dr)
    · exact go (Keep.new hT) (r2.new hT) (.inr ⟨htp t1, T, us, es, rfl, rfl, .inl (.inl upd_same), dl.ext (Keep.new hT).extZ⟩)
  · have e : i = xs.length := by omega
    subst e
    rw [List.drop_length] at q2
    exact .inl ⟨src.stop p2, q2 (.ref D) H2 j2 r2 ⟨D, rfl, jl2⟩ k2⟩
theorem pg_putD {p2 : Pos} (hu : X.A.units + 1 < cLine) (hN : X.N[i]? = some x) (hv : Vis X.env.scope x) (hd : (x == ("__debug__" : Str)) = false) (hcd : (x == ("__classdict__" : Str)) = false) (ha : PE X e (T (cf X nm cl E) ca))
    (has : ∀ v, assign (.Subscript (.Name x p) e pos) X.env v = (do
      let ov ← holding [v] (eval (.Name x p) X.env)
      let iv ← holding [v, ov] (eval e X.env)
      standAt pos
      holding [v, ov, iv] (setItem ov iv v)
      release [v, ov, iv] [])) :
    PG X (.Subscript (.Name x p) e pos) (TGd (cf X nm cl E) false [] fun w ρ => fzW w >>= fun y => chkDc ρ i >>= fun _ => ca ρ >>= fun z => keyM z >>= fun k => modDc ρ i (putB k y) >>= fun _ => M.pure ρ) := pg_imp (pg_sub (pe_var hN hv hd hcd) ha (set_dict hu) has) fun v σ H Q h => by
  obtain ⟨w, ρ, st, j, Z, rel, sl, tk, h⟩ := h
  rcases tk with tk | ⟨z, _⟩
  case inr => cases z
  rw [rwx_bind] at h
  cases hz : fzW w st with
  | bad => rw [hz] at h; exact h.elim
  | exc c d s => exact absurd hz (NX.fzW w st c d s)
  | ok y s1 =>
    rw [hz] at h
    have h : RWx ((chkDc ρ i >>= fun _ => ca ρ >>= fun z => keyM z >>= fun k => modDc ρ i (putB k y) >>= fun _ => M.pure ρ) s1) _ _ := h
    have q0 : RWp (fzW w st) fun d s' => d = y ∧ s' = s1 := by rw [hz]; exact ⟨rfl, rfl⟩
    obtain ⟨d, s', ⟨rfl, rfl⟩, r1, k1, dr⟩ := fzW_out rel tk q0
    have sl1 := k1.slots sl
    obtain ⟨l, xs, e1, e2, h⟩ := chkDc_out h
    obtain ⟨v0, e3, a, rfl, e4⟩ := sl1.at_ i _ e1
    refine ⟨.ref a, e3, ?_⟩
    refine T.bind (C := (cf X nm cl E)) (ρ := ρ) (Pk := fun H j st => OkT X.K X.mg nm [] σ H j st Z Q) (k := fun z => keyM z >>= fun k => modDc ρ i (putB k d) >>= fun _ => M.pure ρ) r1 sl1 (fun H' j' st' a s2 k q => OkT.weak q k) (h.mono (fun a s q => OkT.weak q k1) fun c d s q => OkX.weak q k1) fun v2 w2 H2 j2 st2 r2 w2' k2 sl2 h2 => ?_
    have h2 := (NX.bind (NX.keyM w2) fun k => NX.bind (NX.modDc ρ i (putB k d)) fun _ => NX.pure ρ).rwp h2
    rw [rwp_bind] at h2
    obtain ⟨k, rfl, h2⟩ := keyM_out w2' h2
    rw [rwp_bind] at h2
    obtain ⟨xs2, ys, e5, e6, q⟩ := modDc_out e1 h2
    have e4' := k2.rf l a e4
    obtain ⟨us, hu2, ek, hd2⟩ := r2.cell l a _ e4' e5
    unfold putB at e6
    split at e6
    · rename_i hz2
      cases e6
      obtain ⟨b1, b2⟩ := put_ok (k := k) (k2.dr dr) ek hd2
      obtain ⟨r3, k3, _⟩ := r2.writeD e4' e5 hu2 b1 b2
      have hl : us.length < sizeLine := by
        have := congrArg List.length ek
        rw [List.length_map, List.length_map] at this
        rw [← this, ← SZ_eq]; exact hz2
      exact ⟨a, _, rfl, DPut.k hu2 hl, q σ _ j2 Agr.refl r3 (k3.slots sl2) k3⟩
    · cases e6
theorem ps_par3D {i k l : Nat} {x y z : Str} {a b c : Expr} {px py pz pt : Pos} {kt k2 pt2} {ca cb cd : Rho → M W} (hc : X.calm = true) (hN : X.N.Nodup) (hi : X.N[i]? = some x) (hj : X.N[k]? = some y) (hl : X.N[l]? = some z) (hij : i ≠ k) (hil : i ≠ l) (hjl : k ≠ l)
    (hx : X.env.scope.names.lookup x = some .local) (hy : X.env.scope.names.lookup y = some .local) (hz : X.env.scope.names.lookup z = some .local) (ha : PE X a (T (cf X nm cl E) ca)) (hb : PE X b (T (cf X nm cl E) cb)) (hd : PE X c (T (cf X nm cl E) cd))
    (hse : starEach [a, b, c] X.env = (false, eval a X.env) :: starEach [b, c] X.env) (hse1 : starEach [b, c] X.env = (false, eval b X.env) :: starEach [c] X.env) (hse2 : starEach [c] X.env = (false, eval c X.env) :: starEach [] X.env)
    (hw : swappedStores [.Tuple [.Name x px, .Name y py, .Name z pz] kt pt] (.Tuple [a, b, c] k2 pt2) X.env = pure (some [x, y, z]))
    (hs : swapsWithSole [.Tuple [.Name x px, .Name y py, .Name z pz] kt pt] (.Tuple [a, b, c] k2 pt2) pos.line X.env = pure false) :
    PS X (.Assign [.Tuple [.Name x px, .Name y py, .Name z pz] kt pt] (.Tuple [a, b, c] k2 pt2) pos) (TSd (cf X nm cl E) fun ρ => ca ρ >>= fun x => cb ρ >>= fun y => cd ρ >>= fun z => M.pure (.nx, ((ρ.set i (some x)).set k (some y)).set l (some z))) :=
  ps_imp (ps_par3 hc hN hi hj hl hij hil hjl hx hy hz (pa_consD ha (pa_consD hb (pa_consD hd pa_nilD hse2) hse1) hse) hw hs) fun D σ H h => by
    obtain ⟨ρ, st, j, Z, rel, sl, h⟩ := h
    refine ⟨ρ, st, j, Z, rel, sl, ?_⟩
    show RWx ((ca ρ >>= fun x => (cb ρ >>= fun y => (cd ρ >>= fun z => M.pure [] >>= fun zs => M.pure (z :: zs)) >>= fun ys => M.pure (y :: ys)) >>= fun xs => M.pure (x :: xs)) st) _ _
    rw [rwx_bind] at h ⊢
    refine h.mono (fun x s1 q => ?_) fun c d s h => h
    rw [rwx_bind] at q
    show RWx ((((cb ρ >>= fun y => (cd ρ >>= fun z => M.pure [] >>= fun zs => M.pure (z :: zs)) >>= fun ys => M.pure (y :: ys)) : M (List W)) >>= fun xs => M.pure (x :: xs)) s1) _ _
    rw [rwx_bind, rwx_bind]
    refine q.mono (fun y s2 q2 => ?_) fun c d s h => h
    rw [rwx_bind] at q2
    rw [rwx_bind, rwx_bind]
    refine q2.mono (fun z s3 q3 => ?_) fun c d s h => h
    intro vs H' j' r w k
    cases w with
    | cons hw1 t1 =>
      cases t1 with
      | cons hw2 t2 =>
        cases t2 with
        | cons hw3 t3 =>
          cases t3
          exact ⟨_, _, _, rfl, q3 _ H' j' r ((((k.slots sl).set i hw1).set _ hw2).set _ hw3) k⟩
end
end Gd
namespace Gd
open PySem PySem.Spec L2
mutual
def eqD : PyData → PyData → Bool
  | .none, .none => true
  | .bool a, .bool b => a == b
  | .int a, .int b => decide (a = b)
  | .str a, .str b => decide (a = b)
  | .list a, .list b => eqDL a b
  | .tuple a, .tuple b => eqDL a b
  | _, _ => false
def eqDL : List PyData → List PyData → Bool
  | [], [] => true
  | x :: xs, y :: ys => eqD x y && eqDL xs ys
  | _, _ => false
end
mutual
theorem eqD_eq : ∀ (a b : PyData), eqD a b = true → a = b
  | .none, b, h => by cases b <;> first | rfl | cases h
  | .bool a, b, h => by
    cases b with
    | bool b => rw [show a = b by simpa [eqD] using h]
    | _ => cases h
  | .int a, b, h => by
    cases b with
    | int b => rw [show a = b by simpa [eqD] using h]
    | _ => cases h
  | .str a, b, h => by
    cases b with
    | str b => rw [show a = b by simpa [eqD] using h]
    | _ => cases h
  | .list a, b, h => by
    cases b with
    | list b => rw [eqDL_eq a b (by simpa [eqD] using h)]
    | _ => cases h
  | .tuple a, b, h => by
    cases b with
    | tuple b => rw [eqDL_eq a b (by simpa [eqD] using h)]
    | _ => cases h
  | .dict a, b, h => by cases b <;> cases h
theorem eqDL_eq : ∀ (a b : List PyData), eqDL a b = true → a = b
  | [], b, h => by
    cases b with
    | nil => rfl
    | cons _ _ => cases h
  | x :: xs, b, h => by
    cases b with
    | nil => cases h
    | cons y ys =>
      have h : (eqD x y && eqDL xs ys) = true := h
      rw [Bool.and_eq_true] at h
      rw [eqD_eq x y h.1, eqDL_eq xs ys h.2]
end
structure Ck where
  N : List Str
  sc : Scope
  nm : List Str
  ps : List (List Str)
  gs : List (Str × PyData)
  top : Bool := true
namespace Ck
variable (k : Ck)
def has (f : Nat) : Bool := decide (f < k.nm.length)
def nmF (f : Nat) : Str := k.nm.getD f ""
def psF (f : Nat) : List Str := k.ps.getD f []
abbrev sg (cl : Nat → Value × Str) : Sg := ⟨k.nmF, cl, k.psF⟩
def gl (y : Str) : Bool := decide (k.sc.names.lookup y = some .globalImplicit)
def vis (y : Str) : Bool := decide (k.sc.names.lookup y = some .local) || decide (k.sc.names.lookup y = some .cell) || decide (k.sc.names.lookup y = some .free)
def loc (y : Str) : Bool := decide (k.sc.names.lookup y = some .local)
def tgt (y : Str) : Bool := k.loc y || (k.top && decide (k.sc.names.lookup y = some .cell))
def at_ (i : Nat) (y : Str) : Bool := decide (k.N[i]? = some y)
end Ck
def okN (y : Str) : Bool := !(y == ("__debug__" : Str)) && !(y == ("__classdict__" : Str))
def bNames : List Str := ["len", "abs", "int", "max", "min", "sum", "all", "any", "repr", "tuple", "divmod", "isinstance", "list", "sorted", "dict", "bool", "str", "range", "enumerate", "zip", "set"]
def notStar : Expr → Bool
  | .Starred .. => false
  | _ => true
def plainT : Expr → Bool
  | .UnaryOp .Not _ _ => false
  | .BoolOp .. => false
  | .IfExp .. => false
  | .Compare .. => false
  | _ => true
def notSet : Expr → Bool
  | .Set .. => false
  | _ => true
def notComp : Expr → Bool
  | .ListComp .. => false
  | .SetComp .. => false
  | .DictComp .. => false
  | _ => true
def notTup : Expr → Bool
  | .Tuple .. => false
  | .List .. => false
  | _ => true
def plainIx : Expr → Bool
  | .Constant .. => true
  | .Name .. => true
  | .BinOp .. => true
  | .UnaryOp .. => true
  | .Call .. => true
  | .Subscript .. => true
  | .IfExp .. => true
  | _ => false
def tupT : Expr → Bool
  | .Tuple .. => true
  | _ => false
def isTp : It → Bool
  | .enum _ => true
  | .zip _ _ => true
  | _ => false
def tgTp : Tg → Bool
  | .tp _ => true
  | _ => false
mutual
def wsT : Tg → List Nat
  | .nm i => [i]
  | .tp ts => wsTs ts
  | .sub _ _ => []
  | .put _ _ => []
def wsTs : Tgs → List Nat
  | .nil => []
  | .cons t r => wsT t ++ wsTs r
end
def blkB (k : Ck) (scope : Scope) (own : List (Str × Nat)) : Bool :=
  decide (scope.kind = .function) && scope.names.all (fun y => decide (scope.names.lookup y.1 = some y.2)) && own.all (fun p => k.at_ p.2 p.1) &&
  scope.names.all (fun y => !decide (y.2 = .free) || decide (k.sc.names.lookup y.1 = some .cell) || decide (k.sc.names.lookup y.1 = some .free)) &&
  scope.names.all (fun y => !(decide (y.2 = .local) || decide (y.2 = .cell)) || decide (y.1 ∈ own.map (·.1)) || !decide (y.1 ∈ k.N))
def Ck.inn (k : Ck) (scope : Scope) : Ck := { k with sc := relS scope k.sc, top := false }
def kwsB (kws : List Keyword) (ks : List Str) : Bool := decide (kws.map (·.arg) = ks.map some)
mutual
def chkE (k : Ck) : E → Bool → Expr → Bool
  | .var i, t, x => match x with
    | .Name y _ => k.at_ i y && k.vis y && okN y
    | _ => false
  | .cst d, t, x => match x with
    | .Constant (.int i) _ _ => eqD d (.int i)
    | .Constant (.str i) _ _ => eqD d (.str i)
    | .Constant (.bool i) _ _ => eqD d (.bool i)
    | .Constant .none _ _ => eqD d .none
    | _ => false
  | .gc y d, t, x => match x with
    | .Name z _ => decide (y = z) && k.gl z && okN z && k.gs.any (fun p => decide (p.1 = z) && eqD p.2 d)
    | _ => false
  | .gf f, t, x => match x with
    | .Name z _ => decide (k.nmF f = z) && k.gl z && okN z && k.has f
    | _ => false
  | .bin o a b, t, x => match x with
    | .BinOp l op r _ => decide (opOf o = op) && chkE k a false l && chkE k b false r
    | _ => false
  | .neg a, t, x => match x with
    | .UnaryOp .USub y _ => chkE k a false y
    | _ => false
  | .nt a, t, x => match x with
    | .UnaryOp .Not y _ => chkE k a t y
    | _ => false
  | .an a b, t, x => match x with
    | .BoolOp .And [v, w] _ => chkE k a t v && chkE k b t w
    | .BoolOp .And (v :: w :: u :: r) p => chkE k a t v && chkE k b t (.BoolOp .And (w :: u :: r) p)
    | _ => false
  | .or_ a b, t, x => match x with
    | .BoolOp .Or [v, w] _ => chkE k a t v && chkE k b t w
    | .BoolOp .Or (v :: w :: u :: r) p => chkE k a t v && chkE k b t (.BoolOp .Or (w :: u :: r) p)
    | _ => false
  | .cmp o a b, t, x => match x with
    | .Compare l [op] [r] _ => decide (copOf o = op) && !behindInMarks (copOf o) r && chkE k a false l && chkE k b false r
    | _ => false
  | .cmp2 o o' a b c, t, x => match x with
    | .Compare l [op, op'] [r, r'] _ => decide (copOf o = op) && decide (copOf o' = op') && !lastMarks [copOf o, copOf o'] [r, r'] && chkE k a false l && chkE k b false r && chkE k c false r'
    | _ => false
  | .ite c a b, t, x => !t && match x with
    | .IfExp u y z _ => chkE k c true u && chkE k a false y && chkE k b false z
    | _ => false
  | .tup es, t, x => !t && match x with
    | .Tuple xs _ _ => chkAs k es xs
    | _ => false
  | .frz l, t, x => !t && chkLf k l x
  | .cell l, t, x => !t && chkLf k l x
  | .idx a b, t, x => match x with
    | .Subscript l r _ => plainIx r && chkE k a false l && chkE k b false r
    | _ => false
  | .slc a lo hi, t, x => match x with
    | .Subscript l (.Slice lo' hi' none _) _ => chkE k a false l && chkO k lo lo' && chkO k hi hi'
    | _ => false
  | .call f es, t, x => match x with
    | .Call (.Name y _) xs [] _ => decide (k.nmF f = y) && k.gl y && okN y && k.has f && decide ((k.psF f).length = xs.length) && chkA k es xs
    | _ => false
  | .callk f es ks ps, t, x => match x with
    | .Call (.Name y _) xs kws _ => decide (k.nmF f = y) && k.gl y && okN y && k.has f && chkA k es xs && chkK k ks kws &&
      kwsB kws (kws.map fun w => w.arg.getD "") && bindsOkB (k.psF f) xs.length (kws.map fun w => w.arg.getD "") && decide (ps = placesOf (k.psF f) xs.length (kws.map fun w => w.arg.getD ""))
    | _ => false
  | .callv i es, t, x => match x with
    | .Call (.Name y _) (z :: xs) [] _ => k.at_ i y && k.vis y && okN y && chkA k es (z :: xs)
    | _ => false
  | .bi b es, t, x => match x with
    | .Call (.Name y _) (z :: xs) [] _ => decide (biN b = y) && k.gl y && chkA k es (z :: xs)
    | _ => false
  | .isi ty a, t, x => match x with
    | .Call (.Name y _) [z, .Name w _] [] _ => decide (y = "isinstance") && decide (w = tyN ty) && k.gl y && k.gl w && notStar z && chkE k a false z
    | _ => false
  | .dct a, t, x => match x with
    | .Call (.Name y _) [z] [] _ => decide (y = "dict") && k.gl y && notStar z && chkE k a false z
    | _ => false
  | .dcomp own tg' it c ke e, t, x => !t && match x with
    | .DictComp kx vx [⟨tg, iter, ifs, 0⟩] scope _ => blkB k scope own && notSet iter && chkI k it tg iter && chkTg (k.inn scope) tg' tg && chkC (k.inn scope) c ifs && chkE (k.inn scope) ke false kx && chkE (k.inn scope) e false vx &&
      (!isTp it || tgTp tg') && (wsT tg').all (fun i => decide (i ∈ own.map (·.2)))
    | _ => false
  | .dctC a, t, x => !t && match x with
    | .Call (.Name y _) [z] [] _ => decide (y = "dict") && k.gl y && notStar z && chkE k a false z
    | _ => false
  | .app i a, t, x => match x with
    | .Call (.Attribute (.Name y _) m apos) [z] [] cpos => decide (m = "append") && k.at_ i y && k.vis y && okN y && (apos.endLine == cpos.line) && notStar z && chkE k a false z
    | _ => false
  | .ext i a, t, x => match x with
    | .Call (.Attribute (.Name y _) m apos) [z] [] cpos => decide (m = "extend") && k.at_ i y && k.vis y && okN y && (apos.endLine == cpos.line) && notStar z && chkE k a false z
    | _ => false
  | .pop i a, t, x => match x with
    | .Call (.Attribute (.Name y _) m apos) [z] [] cpos => decide (m = "pop") && k.at_ i y && k.vis y && okN y && (apos.endLine == cpos.line) && notStar z && chkE k a false z
    | _ => false
  | .fz a, t, x => !t && chkE k a false x
  | .scl a, t, x => match x with
    | .Call (.Name y _) [z] [] _ => decide (y = "len") && k.gl y && notStar z && chkE k a false z
    | _ => false
  | .sci a b, t, x => match x with
    | .Subscript l r _ => plainIx r && chkE k a false l && chkE k b false r
    | _ => false
def chkLf (k : Ck) : Lf → Expr → Bool
  | .scs a h, x => match x with
    | .Subscript l (.Slice none h' none _) _ => chkE k a false l && chkO k h h'
    | _ => false
  | .disp es, x => match x with
    | .List xs _ => chkAs k es xs
    | _ => false
  | .comp own t it c e, x => match x with
    | .ListComp elt [⟨tg, iter, ifs, 0⟩] scope _ => blkB k scope own && notSet iter && chkI k it tg iter && chkTg (k.inn scope) t tg && chkC (k.inn scope) c ifs && chkE (k.inn scope) e false elt &&
      (!isTp it || tgTp t) && (wsT t).all (fun i => decide (i ∈ own.map (·.2)))
    | _ => false
  | .listOf a, x => match x with
    | .Call (.Name y _) [z] [] _ => decide (y = "list") && k.gl y && notStar z && chkE k a false z
    | _ => false
  | .sorted rev a, x => match x with
    | .Call (.Name y _) [z] [] _ => !rev && decide (y = "sorted") && k.gl y && notStar z && chkE k a false z
    | .Call (.Name y _) [z] [⟨some w, .Constant (.bool b) _ _, _⟩] _ => (b == rev) && decide (w = "reverse") && decide (y = "sorted") && k.gl y && notStar z && chkE k a false z
    | _ => false
  | .sortedSet a, x => match x with
    | .Call (.Name y _) [.Call (.Name w _) [z] [] _] [] _ => decide (y = "sorted") && decide (w = "set") && k.gl y && k.gl w && notStar z && chkE k a false z
    | _ => false
  | .rev a, x => match x with
    | .Subscript l (.Slice none none (some (.UnaryOp .USub (.Constant (.int i) _ _) _)) _) _ => decide (i = 1) && chkE k a false l
    | _ => false
  | .slcL a lo hi, x => match x with
    | .Subscript l (.Slice lo' hi' none _) _ => chkE k a false l && chkO k lo lo' && chkO k hi hi'
    | _ => false
  | .cat a b, x => match x with
    | .BinOp l .Add r _ => chkE k a false l && chkE k b false r
    | _ => false
def chkA (k : Ck) : Es → List Expr → Bool
  | .nil, x => match x with
    | [] => true
    | _ => false
  | .cons e r, x => match x with
    | y :: ys => notStar y && chkE k e false y && chkA k r ys
    | _ => false
  | .star _ _, _ => false
def chkAs (k : Ck) : Es → List Expr → Bool
  | .nil, x => match x with
    | [] => true
    | _ => false
  | .cons e r, x => match x with
    | y :: ys => notStar y && chkE k e false y && chkAs k r ys
    | _ => false
  | .star e r, x => match x with
    | .Starred y _ :: ys => chkE k e false y && chkAs k r ys
    | _ => false
def chkK (k : Ck) : Es → List Keyword → Bool
  | .nil, x => match x with
    | [] => true
    | _ => false
  | .cons e r, x => match x with
    | ⟨_, y, _⟩ :: ys => chkE k e false y && chkK k r ys
    | _ => false
  | .star _ _, _ => false
def chkO (k : Ck) : Es → Option Expr → Bool
  | .nil, x => match x with
    | none => true
    | _ => false
  | .cons e r, x => match r, x with
    | .nil, some y => chkE k e false y
    | _, _ => false
  | .star _ _, _ => false
def chkC (k : Ck) : Es → List Expr → Bool
  | .nil, x => match x with
    | [] => true
    | _ => false
  | .cons e r, x => match r, x with
    | .nil, [y] => chkE k e true y
    | _, _ => false
  | .star _ _, _ => false
def chkI (k : Ck) : It → Expr → Expr → Bool
  | .seq a, tg, x => chkE k a false x
  | .range1 a, tg, x => match x with
    | .Call (.Name y _) [z] [] _ => decide (y = "range") && k.gl y && notStar z && chkE k a false z
    | _ => false
  | .range2 a b, tg, x => match x with
    | .Call (.Name y _) [z, w] [] _ => decide (y = "range") && k.gl y && notStar z && notStar w && chkE k a false z && chkE k b false w
    | _ => false
  | .enum a, tg, x => match x with
    | .Call (.Name y _) [z] [] _ => tupT tg && decide (y = "enumerate") && k.gl y && notStar z && chkE k a false z
    | _ => false
  | .zip a b, tg, x => match x with
    | .Call (.Name y _) [z, w] [] _ => tupT tg && decide (y = "zip") && k.gl y && notStar z && notStar w && chkE k a false z && chkE k b false w
    | _ => false
def chkTg (k : Ck) : Tg → Expr → Bool
  | .nm i, x => match x with
    | .Name y _ => k.at_ i y && k.tgt y
    | _ => false
  | .tp ts, x => match x with
    | .Tuple xs _ _ => chkTgs k ts xs
    | _ => false
  | .sub i e, x => match x with
    | .Subscript (.Name y _) r _ => k.at_ i y && k.vis y && okN y && plainIx r && chkE k e false r
    | _ => false
  | .put i e, x => match x with
    | .Subscript (.Name y _) r _ => k.at_ i y && k.vis y && okN y && plainIx r && chkE k e false r
    | _ => false
def chkTgs (k : Ck) : Tgs → List Expr → Bool
  | .nil, x => match x with
    | [] => true
    | _ => false
  | .cons t r, x => match x with
    | y :: ys => notStar y && chkTg k t y && chkTgs k r ys
    | _ => false
end
def swapB (k : Ck) (tg v : Expr) : Bool := match tg, v with
  | .Name y py, .ListComp _ _ scope pos => k.loc y && (py.line == pos.line) && !(scope.names.any fun p => p.1 == y && (p.2 == .local || p.2 == .cell))
  | _, _ => false
def notName : Expr → Bool
  | .Name .. => false
  | _ => true
def isLC : Expr → Bool
  | .ListComp .. => true
  | _ => false
def outB (k : Ck) : Expr → Bool
  | .Name id _ => !k.loc id
  | _ => true
def mixB (k : Ck) (tg v : Expr) : Bool := match tg, v with
  | .Tuple ts _ _, .Tuple _ _ _ => ts.any (outB k) || !(ts.length == 2 || ts.length == 3)
  | _, _ => false
def quietB (k : Ck) (tg v : Expr) : Bool := (notComp v || notName tg || isLC v) && (notTup tg || notTup v || mixB k tg v)
def compL : E → Option Lf
  | .frz (.comp a b c d e) => some (.comp a b c d e)
  | .cell (.comp a b c d e) => some (.comp a b c d e)
  | _ => none
def parB (k : Ck) (x y : Str) (px py : Pos) (a b : Expr) : Bool :=
  k.loc x && k.loc y && decide (x ≠ y) && notStar a && notStar b && (py.line == px.line) && !([a, b].all (foldedForSure 8)) && !([a, b].all (constantsAlone 8))
def par3B (k : Ck) (x y z : Str) (px py pz : Pos) (a b c : Expr) : Bool :=
  k.loc x && k.loc y && k.loc z && decide (x ≠ y) && decide (x ≠ z) && decide (y ≠ z) && notStar a && notStar b && notStar c && (py.line == px.line) && (pz.line == px.line) && !([a, b, c].all (foldedForSure 8)) && !([a, b, c].all (constantsAlone 8))
mutual
def chkS (k : Ck) : S → Stmt → Bool
  | .asg t e, x => match x with
    | .Assign [tg] v _ => chkTg k t tg && chkE k e false v && (if swapB k tg v then (compL e).isSome else quietB k tg v)
    | _ => false
  | .par i j a b, x => match x with
    | .Assign [.Tuple [.Name y py, .Name z pz] _ _] (.Tuple [u, v] _ _) _ => k.at_ i y && k.at_ j z && decide (i ≠ j) && parB k y z py pz u v && chkE k a false u && chkE k b false v
    | _ => false
  | .par3 i j l a b c, x => match x with
    | .Assign [.Tuple [.Name y py, .Name z pz, .Name o po] _ _] (.Tuple [u, v, w] _ _) _ => k.at_ i y && k.at_ j z && k.at_ l o && decide (i ≠ j) && decide (i ≠ l) && decide (j ≠ l) && par3B k y z o py pz po u v w && chkE k a false u && chkE k b false v && chkE k c false w
    | _ => false
  | .ex e, x => match x with
    | .Expr v _ => notComp v && chkE k e false v
    | _ => false
  | .ret e, x => match x with
    | .Return (some v) _ => chkE k e false v
    | .Return none _ => match e with
      | .cst d => eqD d .none
      | _ => false
    | _ => false
  | .iff c t f, x => match x with
    | .If u a b _ => chkE k c true u && chkSs k t a && chkSs k f b
    | _ => false
  | .for_ t it b, x => match x with
    | .For tg iter body [] _ => notSet iter && chkI k it tg iter && chkTg k t tg && (!isTp it || tgTp t) && chkSs k b body
    | _ => false
  | .wh c b, x => match x with
    | .While u body [] _ => chkE k c true u && chkSs k b body
    | _ => false
  | .never, x => true
def chkSs (k : Ck) : Ss → List Stmt → Bool
  | .nil, x => match x with
    | [] => true
    | _ => false
  | .cons s r, x => match x with
    | y :: ys => chkS k s y && chkSs k r ys
    | _ => false
end
end Gd
namespace Gd
open PySem PySem.Spec L2
theorem star_ok {y : Expr} {ys : List Expr} {env : Env} (h : notStar y = true) : starEach (y :: ys) env = (false, eval y env) :: starEach ys env := by
  cases y <;> first | rfl | cases h
theorem asg_ok {y : Expr} {ys : List Expr} {env : Env} (h : notStar y = true) : assignEach (y :: ys) env = (false, assign y env) :: assignEach ys env := by
  cases y <;> first | rfl | cases h
theorem star_nil {env : Env} : starEach [] env = [] := rfl
theorem asg_nil {env : Env} : assignEach [] env = [] := rfl
theorem plain_ok {env : Env} {p : Pos} : ∀ {xs : List Expr}, xs.all notStar = true → (backTo p (starEach xs env)).any (·.1) = false
  | [], _ => by rw [star_nil]; rfl
  | y :: ys, h => by
    rw [List.all_cons, Bool.and_eq_true] at h
    rw [star_ok h.1]
    have ih := plain_ok (env := env) (p := p) h.2
    unfold backTo at ih ⊢
    rw [List.map_cons, List.any_cons, ih]
    rfl
theorem few_ok {env : Env} {p : Pos} {y : Expr} (h : notStar y = true) : ((backTo p (starEach [y] env)).all (fun x => !x.1) && (backToKw p (keywordEach [] env)).all (fun x => x.1.isSome) && decide ([y].length + ([] : List Keyword).length + (if ([] : List Keyword).isEmpty then 0 else 1) < 30)) = true := by
  rw [star_ok h, star_nil]
  simp [keywordEach, backTo, backToKw]
theorem plainIx_ok {y : Expr} (h : plainIx y = true) : PlainIx y := by
  cases y <;> first | (intro o i; rfl) | cases h
theorem plainT_ok {y : Expr} {env : Env} (h : plainT y = true) : ∀ whole, isTrue y env whole = (do let v ← whole; standAt y.pos; holding [v] (truthy v)) := by
  intro whole
  cases y with
  | UnaryOp op x p =>
    cases op with
    | Not => cases h
    | _ => rfl
  | BoolOp => cases h
  | IfExp => cases h
  | Compare => cases h
  | _ => rfl
theorem notSet_ok {y : Expr} {env : Env} (h : notSet y = true) : ∀ x, foldedSetIterable y env x = pure x := by
  intro x
  cases y <;> first | rfl | cases h
theorem swaps_none {v : Expr} {n : Nat} {env : Env} (h : notComp v = true) (tg : Option Expr) : swapsWith v tg n env = pure false := by
  cases v <;> first | rfl | cases h
theorem swaps_sole {v tg : Expr} {n : Nat} {env : Env} (h : notComp v = true) : swapsWithSole [tg] v n env = pure false := by
  show swapsWith v (some tg) n env = _
  exact swaps_none h _
theorem swaps_tgt {v tg : Expr} {n : Nat} {env : Env} (h : (match tg with | .Name .. => false | _ => true) = true) : swapsWithSole [tg] v n env = pure false := by
  show swapsWith v (some tg) n env = _
  cases tg <;> first | (cases v <;> rfl) | cases h
theorem swapped_none {v tg : Expr} {env : Env} (h : (notTup tg || notTup v) = true) : swappedStores [tg] v env = pure none := by
  cases tg <;> cases v <;> first | rfl | cases h
theorem at_of {k : Ck} {i : Nat} {y : Str} (h : k.at_ i y = true) : k.N[i]? = some y := of_decide_eq_true h
theorem vis_of {k : Ck} {y : Str} (h : k.vis y = true) : Vis k.sc y := by
  unfold Ck.vis at h
  simp only [Bool.or_eq_true, decide_eq_true_eq] at h
  rcases h with (h | h) | h
  · exact .inl h
  · exact .inr (.inl h)
  · exact .inr (.inr h)
theorem loc_of {k : Ck} {y : Str} (h : k.loc y = true) : k.sc.names.lookup y = some .local := of_decide_eq_true h
theorem gl_of {k : Ck} {y : Str} (h : k.gl y = true) : k.sc.names.lookup y = some .globalImplicit := of_decide_eq_true h
theorem okN_of {y : Str} (h : okN y = true) : (y == ("__debug__" : Str)) = false ∧ (y == ("__classdict__" : Str)) = false := by
  unfold okN at h
  simpa [Bool.and_eq_true] using h
theorem blk_of {k : Ck} {scope : Scope} {own : List (Str × Nat)} (h : blkB k scope own = true) : BlkOk k.N k.sc scope own := by
  unfold blkB at h
  simp only [Bool.and_eq_true, List.all_eq_true, decide_eq_true_eq, Bool.or_eq_true, Bool.not_eq_true', decide_eq_false_iff_not] at h
  obtain ⟨⟨⟨⟨h1, h2⟩, h3⟩, h4⟩, h5⟩ := h
  refine ⟨h1, h2, fun p hp => at_of (h3 p hp), fun y hy e => ?_, fun y hy e => ?_⟩
  · rcases h4 y hy with (z | z) | z
    · exact absurd e z
    · exact .inl z
    · exact .inr z
  · rcases h5 y hy with (z | z) | z
    · rw [Bool.or_eq_false_iff] at z
      rcases e with e | e
      · exact absurd e (of_decide_eq_false z.1)
      · exact absurd e (of_decide_eq_false z.2)
    · exact .inl z
    · exact .inr z
theorem kws_ok {env : Env} {p : Pos} : ∀ {kws : List Keyword} {ks : List Str}, kws.map (·.arg) = ks.map some → (backToKw p (keywordEach kws env)).all (·.1.isSome) = true ∧ (backToKw p (keywordEach kws env)).filterMap (·.1) = ks ∧ (backToKw p (keywordEach kws env)).any (·.1.isNone) = false
  | [], ks, h => by
    cases ks with
    | nil => exact ⟨rfl, rfl, rfl⟩
    | cons _ _ => cases h
  | ⟨a, v, q⟩ :: r, ks, h => by
    cases ks with
    | nil => cases h
    | cons b ks =>
      rw [List.map_cons, List.map_cons] at h
      obtain ⟨h1, h2⟩ := List.cons.inj h
      have h1 : a = some b := h1
      subst h1
      obtain ⟨i1, i2, i3⟩ := kws_ok (env := env) (p := p) h2
      unfold backToKw at i1 i2 i3 ⊢
      rw [keywordEach, List.map_cons]
      refine ⟨?_, ?_, ?_⟩
      · rw [List.all_cons, i1]; rfl
      · rw [List.filterMap_cons]; dsimp only; rw [i2]
      · rw [List.any_cons, i3]; rfl
end Gd
namespace Gd
open PySem PySem.Spec L2
structure Good (k : Ck) (cl : Nat → Value × Str) (CX : CXT) (n : Nat) (run : Nat → List W → M W) (X : Cx) (E : XK) : Prop where
  fit : Fit X
  sc : X.env.scope = k.sc
  N : X.N = k.N
  nb : ∀ y ∈ bNames, X.mg y = none
  gs : ∀ p ∈ k.gs, ∃ u v, X.mg p.1 = some u ∧ RelV v u ∧ ∀ H L, (∀ a, L a → ∃ o, H a = some o) → Dr X.K H L v p.2
  D : Defs X.prog X.w X.K X.mg X.base CX n (k.sg cl) run k.has
  room : Room n X.A
  hx : Passes CX X E
  hb : ∀ X', Passes CX X' C8.E0
  fn : k.top = true → ∀ y, X.fn y = true
section
variable {k : Ck} {cl : Nat → Value × Str} {CX : CXT} {n : Nat} {run : Nat → List W → M W} {X : Cx} {E : XK}
theorem Good.inn (g : Good k cl CX n run X E) (scope : Scope) (s : Shared) (H : Hp) (C : Addr) (l : List (Str × Addr)) (fp : List Addr) : Good (k.inn scope) cl CX n run (X.blk s H scope (compEnvC scope l C X.env) fp) C8.E0 :=
  ⟨⟨g.fit.calm, g.fit.gd, g.fit.un, g.fit.nd⟩, by show relS scope X.env.scope = relS scope k.sc; rw [g.sc], g.N, g.nb, g.gs, g.D, g.room, g.hb _, g.hb, fun z => nomatch z⟩
theorem Good.nn (g : Good k cl CX n run X E) {i : Nat} {y : Str} (h : k.at_ i y = true) : X.N[i]? = some y := by rw [g.N]; exact at_of h
theorem Good.v (g : Good k cl CX n run X E) {y : Str} (h : k.vis y = true) : Vis X.env.scope y := by rw [g.sc]; exact vis_of h
theorem Good.l (g : Good k cl CX n run X E) {y : Str} (h : k.loc y = true) : X.env.scope.names.lookup y = some .local := by rw [g.sc]; exact loc_of h
theorem Good.t (g : Good k cl CX n run X E) {y : Str} (h : k.tgt y = true) : Loc X.env.scope y ∧ (X.fn y = true ∨ X.env.scope.names.lookup y = some .local) := by
  unfold Ck.tgt at h
  rw [Bool.or_eq_true, Bool.and_eq_true, decide_eq_true_eq] at h
  rcases h with h | ⟨h1, h2⟩
  · exact ⟨.inl (g.l h), .inr (g.l h)⟩
  · exact ⟨.inr (by rw [g.sc]; exact h2), .inl (g.fn h1 y)⟩
theorem Good.g (g : Good k cl CX n run X E) {y : Str} (h : k.gl y = true) : Gl X y := by show X.env.scope.names.lookup y = _; rw [g.sc]; exact gl_of h
theorem Good.b (g : Good k cl CX n run X E) {i : Nat} {y : Str} (hi : bNames[i]? = some y) : X.mg y = none := g.nb y (List.mem_of_getElem? hi)
def Snd (nm : Nat → Str) (cl : Nat → Value × Str) (E : XK) (X : Cx) (c : Rho → M W) (t : Bool) (x : Expr) : Prop := match t with
  | false => PE X x (T (cf X nm cl E) c)
  | true => PT X x (TB (cf X nm cl E) fun ρ => c ρ >>= asB)
theorem snd_leaf {c : Rho → M W} {t : Bool} {x : Expr} (h : PE X x (T (cf X k.nmF cl E) c)) (p : t = true → plainT x = true) : Snd k.nmF cl E X c t x := by
  cases t with
  | false => exact h
  | true => exact pt_imp (pt_val h (plainT_ok (p rfl))) fun σ H Q q => T.asB q
theorem tb_eq {c c' : Rho → M Bool} (h : ∀ ρ, c' ρ = c ρ) {x : Expr} (q : PT X x (TB (cf X k.nmF cl E) c)) : PT X x (TB (cf X k.nmF cl E) c') := by
  have : c' = c := funext h
  rw [this]
  exact q
theorem bind_assoc {α β γ : Type} (m : M α) (f : α → M β) (g : β → M γ) : (m >>= f) >>= g = m >>= fun a => f a >>= g := by
  funext s
  show M.bind (M.bind m f) g s = M.bind m (fun a => M.bind (f a) g) s
  unfold M.bind
  cases m s <;> rfl
theorem bind_pure {α β : Type} (a : α) (f : α → M β) : (M.pure a >>= f) = f a := rfl
theorem ite_bind {α β : Type} (b : Bool) (x y : M α) (f : α → M β) : (if b then x else y) >>= f = if b then x >>= f else y >>= f := by cases b <;> rfl
theorem pw_of {op : BoolOp} {vs : List Expr} {p : Pos} {t : TT} (h : PT X (.BoolOp op vs p) t) : PW X (.BoolOp op vs p) t := ⟨fun wh pins s σ H Q I q => h.run pins s σ H Q I q⟩
theorem glob_pe {y : Str} {u : Value} {v : V} {p : Pos} (hg : Gl X y) (hm : X.mg y = some u) (r : RelV v u) (hd : (y == ("__debug__" : Str)) = false) : PE X (.Name y p) (tC v) := ⟨fun pins s σ H Q I q => ld_glob I hg hm ⟨v, H, I, r, q⟩ hd⟩
theorem pa_consX {ca : Rho → M W} {cr : Rho → M (List W)} {y : Expr} {ys : List Expr} (hn : notStar y = true) (ha : PE X y (T (cf X k.nmF cl E) ca)) (hr : PA X ys (TAr (cf X k.nmF cl E) cr)) :
    PA X (y :: ys) (TAr (cf X k.nmF cl E) fun ρ => ca ρ >>= fun x => cr ρ >>= fun xs => M.pure (x :: xs)) := pa_consD ha hr (star_ok hn)
theorem pk_consD {ca : Rho → M W} {cr : Rho → M (List W)} {y : Expr} {q : Pos} {nmk : Option Str} {ys : List Keyword} (ha : PE X y (T (cf X k.nmF cl E) ca)) (hr : PK X ys (TAr (cf X k.nmF cl E) cr)) :
    PK X (⟨nmk, y, q⟩ :: ys) (TAr (cf X k.nmF cl E) fun ρ => ca ρ >>= fun x => cr ρ >>= fun xs => M.pure (x :: xs)) := pk_imp (pk_cons ha hr) fun σ H Q h => T.cons h
theorem pk_nilD : PK X [] (TAr (cf X k.nmF cl E) fun _ => M.pure []) := pk_imp pk_nil fun σ H Q h => by
  obtain ⟨ρ, st, j, Z, rel, sl, h⟩ := h
  exact h [] H j rel .nil Keep.refl
theorem len_denA (run : Nat → List W → M W) : ∀ (es : Es) (xs : List Expr), chkA k es xs = true → Len (denA run es) xs.length ∧ xs.all notStar = true
  | .nil, xs, h => by
    cases xs with
    | nil => exact ⟨Len.nil, rfl⟩
    | cons _ _ => simp [chkA] at h
  | .cons e r, xs, h => by
    cases xs with
    | nil => simp [chkA] at h
    | cons y ys =>
      simp only [chkA, Bool.and_eq_true] at h
      obtain ⟨h1, h2⟩ := len_denA run r ys h.2
      exact ⟨Len.cons h1, by rw [List.all_cons, h.1.1, h2]; rfl⟩
  | .star e r, xs, h => by simp [chkA] at h
theorem len_denK (run : Nat → List W → M W) : ∀ (es : Es) (xs : List Keyword), chkK k es xs = true → Len (denA run es) xs.length
  | .nil, xs, h => by
    cases xs with
    | nil => exact Len.nil
    | cons _ _ => simp [chkK] at h
  | .cons e r, xs, h => by
    cases xs with
    | nil => simp [chkK] at h
    | cons y ys =>
      obtain ⟨a, v, q⟩ := y
      simp only [chkK, Bool.and_eq_true] at h
      exact Len.cons (len_denK run r ys h.2)
  | .star e r, xs, h => by simp [chkK] at h
theorem len_tgs : ∀ (ts : Tgs) (xs : List Expr), chkTgs k ts xs = true → ts.len = xs.length ∧ xs.all notStar = true
  | .nil, xs, h => by
    cases xs with
    | nil => exact ⟨rfl, rfl⟩
    | cons _ _ => simp [chkTgs] at h
  | .cons t r, xs, h => by
    cases xs with
    | nil => simp [chkTgs] at h
    | cons y ys =>
      simp only [chkTgs, Bool.and_eq_true] at h
      obtain ⟨h1, h2⟩ := len_tgs r ys h.2
      exact ⟨by rw [Tgs.len, h1]; rfl, by rw [List.all_cons, h.1.1, h2]; rfl⟩
theorem asg_len {env : Env} : ∀ {xs : List Expr}, xs.all notStar = true → (assignEach xs env).length = xs.length ∧ (assignEach xs env).findIdx? (·.1) = none
  | [], _ => ⟨rfl, rfl⟩
  | y :: ys, h => by
    rw [List.all_cons, Bool.and_eq_true] at h
    obtain ⟨a, b⟩ := asg_len (env := env) h.2
    rw [asg_ok h.1]
    exact ⟨by rw [List.length_cons, List.length_cons, a], by rw [List.findIdx?_cons, b]; rfl⟩
end
end Gd
namespace Gd
open PySem PySem.Spec L2
theorem eqD_cst {d : PyData} {K : PySem.W.Frag} {v : V} {x : PyData} (h : eqD d x = true) (f : ∀ H L, Dr K H L v x) : ∀ H L, Dr K H L v d := by
  rw [eqD_eq _ _ h]
  exact f
section
variable {k : Ck} {cl : Nat → Value × Str} {CX : CXT} {n : Nat} {run : Nat → List W → M W} {X : Cx} {E' : XK}
theorem tn_eq {c c' : Rho → M (List PyData)} (h : c' = c) {x : Expr} (q : PE X x (TN (cf X k.nmF cl E') c)) : PE X x (TN (cf X k.nmF cl E') c') := by rw [h]; exact q
theorem gf_pe {f : Nat} {y : Str} {p : Pos} (g : Good k cl CX n run X E') (h1 : k.nmF f = y) (h2 : k.gl y = true) (h3 : okN y = true) (h4 : k.has f = true) : PE X (.Name y p) (T (cf X k.nmF cl E') fun _ => M.pure (.f f)) := by
  obtain ⟨a, fd, hm, _⟩ := g.D.at_ f h4
  have hm : X.mg (k.nmF f) = some (.ref a) := hm
  rw [h1] at hm
  refine pe_imp (glob_pe (g.g h2) hm (v := .ref a) rfl (okN_of h3).1) fun σ H Q q => ?_
  obtain ⟨ρ, st, j, Z, rel, sl, h⟩ := q
  exact h (.ref a) H j rel ⟨a, rfl, by show X.mg (k.nmF f) = _; rw [h1]; exact hm⟩ Keep.refl
theorem gc_pe {y : Str} {d : PyData} {p : Pos} (g : Good k cl CX n run X E') (h2 : k.gl y = true) (h3 : okN y = true) (h4 : k.gs.any (fun p => decide (p.1 = y) && eqD p.2 d) = true) : PE X (.Name y p) (T (cf X k.nmF cl E') fun _ => M.pure (.d d)) := by
  obtain ⟨q, hq, e⟩ := List.any_eq_true.mp h4
  rw [Bool.and_eq_true, decide_eq_true_eq] at e
  obtain ⟨u, v, hm, r, dr⟩ := g.gs q hq
  rw [e.1] at hm
  rw [eqD_eq _ _ e.2] at dr
  exact pe_imp (glob_pe (g.g h2) hm r (okN_of h3).1) fun σ H Q q => T.cst (fun L hl => dr H L hl) q
theorem mform {x : Str} {p apos cpos : Pos} {m : Str} {e : Expr} (h : (apos.endLine == cpos.line) = true) (hn : notStar e = true) : MForm X x p m apos e cpos :=
  ⟨rfl, few_ok hn, h, star_ok hn, rfl⟩
theorem pt_cmpD {o : COp} {ca cb : Rho → M W} {e1 e2 : Expr} {pos : Pos} {nm : Nat → Str} (hu : X.A.units + 64 < cLine) (ha : PE X e1 (T (cf X nm cl E') ca)) (hb : PE X e2 (T (cf X nm cl E') cb)) (hm : behindInMarks (copOf o) e2 = false) :
    PT X (.Compare e1 [copOf o] [e2] pos) (TB (cf X nm cl E') fun ρ => (ca ρ >>= fun x => cb ρ >>= fun y => cmpM o x y) >>= asB) :=
  pt_imp (pt_cmpR (or_cmp hu o) ha hb hm) fun σ H Q q => T.op (fun x y => NX.cmpM o x y) (T.asB q)
theorem pt_cmp2D {o o' : COp} {ca cb cc : Rho → M W} {e1 e2 e3 : Expr} {pos : Pos} {nm : Nat → Str} (hu : X.A.units + 64 < cLine) (ha : PE X e1 (T (cf X nm cl E') ca)) (hb : PE X e2 (T (cf X nm cl E') cb)) (hc : PE X e3 (T (cf X nm cl E') cc)) (hm : lastMarks [copOf o, copOf o'] [e2, e3] = false) :
    PT X (.Compare e1 [copOf o, copOf o'] [e2, e3] pos) (TB (cf X nm cl E') fun ρ => (ca ρ >>= fun x => cb ρ >>= fun y => cmpB o x y >>= fun z => if z then cc ρ >>= fun u => cmpM o' y u else M.pure (.d (.bool false))) >>= asB) :=
  pt_imp (pt_chain (or_cmp hu o) (or_cmp hu o') ha hb hc hm) fun σ H Q q => T.chain (T.asB q)
theorem ptsYes : PTs X [] (TB (cf X k.nmF cl E') fun _ => M.pure true) := ⟨fun pins s σ H Q I q => pts_nil.run pins s σ H Q I (by
  obtain ⟨ρ, st, j, Z, rel, sl, h⟩ := q
  exact h H j rel Keep.refl)⟩
theorem pgs_eq {xs : List Expr} {ws : List Nat} {c c' : List PyData → Rho → M Rho} (h : ∀ ds ρ, c' ds ρ = c ds ρ) (q : PGs X xs (TGsd (cf X k.nmF cl E') ws c)) : PGs X xs (TGsd (cf X k.nmF cl E') ws c') := by
  have : c' = c := funext fun ds => funext fun ρ => h ds ρ
  rw [this]
  exact q
theorem asg_sub {x : Str} {p pos : Pos} {e : Expr} {env : Env} (h : plainIx e = true) : ∀ v, assign (.Subscript (.Name x p) e pos) env v = (do
      let ov ← holding [v] (eval (.Name x p) env)
      let iv ← holding [v, ov] (eval e env)
      standAt pos
      holding [v, ov, iv] (setItem ov iv v)
      release [v, ov, iv] []) := by
  intro v
  cases e <;> first | rfl | cases h
theorem boolT {b : Bool} {a c : Prop} (h : (!b) = true) : b = false := by simpa using h
end
mutual
theorem sndE {cl : Nat → Value × Str} {CX : CXT} {n : Nat} {run : Nat → List W → M W} : ∀ (e : E) {k : Ck} {X : Cx} {E' : XK} (g : Good k cl CX n run X E') (t : Bool) (x : Expr), chkE k e t x = true → Snd k.nmF cl E' X (denE run e) t x
  | .var i, k, X, E', g, t, x, h => by
    simp only [chkE] at h
    split at h
    · simp only [Bool.and_eq_true] at h
      exact snd_leaf (pe_imp (pe_var (g.nn h.1.1) (g.v h.1.2) (okN_of h.2).1 (okN_of h.2).2) fun σ H Q q => T.var i q) fun _ => rfl
    · cases h
  | .cst d, k, X, E', g, t, x, h => by
    simp only [chkE] at h
    split at h
    · exact snd_leaf (pe_imp pe_int fun σ H Q q => T.cst (fun L _ => eqD_cst h (fun H L => .int _) H L) q) fun _ => rfl
    · exact snd_leaf (pe_imp pe_str fun σ H Q q => T.cst (fun L _ => eqD_cst h (fun H L => .str _) H L) q) fun _ => rfl
    · exact snd_leaf (pe_imp pe_bl fun σ H Q q => T.cst (fun L _ => eqD_cst h (fun H L => .bl _) H L) q) fun _ => rfl
    · exact snd_leaf (pe_imp pe_non fun σ H Q q => T.cst (fun L _ => eqD_cst h (fun H L => .non) H L) q) fun _ => rfl
    · cases h
  | .gc y d, k, X, E', g, t, x, h => by
    simp only [chkE] at h
    split at h
    · simp only [Bool.and_eq_true] at h
      exact snd_leaf (gc_pe g h.1.1.2 h.1.2 h.2) fun _ => rfl
    · cases h
  | .gf f, k, X, E', g, t, x, h => by
    simp only [chkE] at h
    split at h
    · simp only [Bool.and_eq_true, decide_eq_true_eq] at h
      exact snd_leaf (gf_pe g h.1.1.1 h.1.1.2 h.1.2 h.2) fun _ => rfl
    · cases h
  | .bin o a b, k, X, E', g, t, x, h => by
    simp only [chkE] at h
    split at h
    · simp only [Bool.and_eq_true, decide_eq_true_eq] at h
      obtain ⟨⟨rfl, h1⟩, h2⟩ := h
      exact snd_leaf (pe_binD (sndE a g false _ h1) (sndE b g false _ h2)) fun _ => rfl
    · cases h
  | .neg a, k, X, E', g, t, x, h => by
    simp only [chkE] at h
    split at h
    · exact snd_leaf (pe_negD (sndE a g false _ h)) fun _ => rfl
    · cases h
  | .nt a, k, X, E', g, t, x, h => by
    simp only [chkE] at h
    split at h
    · cases t with
      | false => exact pe_ntD (sndE a g false _ h)
      | true =>
        refine tb_eq (c := fun ρ => (denE run a ρ >>= asB) >>= fun b => M.pure (!b)) (fun ρ => ?_) (pt_imp (pt_not (sndE a g true _ h)) fun σ H Q q => T.notT q)
        show (denE run a ρ >>= fun x => asB x >>= fun b => M.pure (W.d (.bool (!b)))) >>= asB = _
        rw [bind_assoc, bind_assoc]
        congr 1
        funext w
        rw [bind_assoc]
        rfl
    · cases h
  | .an a b, k, X, E', g, t, x, h => by
    simp only [chkE] at h
    have tst : ∀ {v : Expr} {vs : List Expr} {p : Pos}, PT X v (TB (cf X k.nmF cl E') fun ρ => denE run a ρ >>= asB) → PT X (.BoolOp .And vs p) (TB (cf X k.nmF cl E') fun ρ => denE run b ρ >>= asB) → vs ≠ [] → PT X (.BoolOp .And (v :: vs) p) (TB (cf X k.nmF cl E') fun ρ => denE run (.an a b) ρ >>= asB) := by
      intro v vs p h1 h2 hne
      cases vs with
      | nil => exact absurd rfl hne
      | cons w vs =>
        refine tb_eq (c := fun ρ => (denE run a ρ >>= asB) >>= fun c => if c then denE run b ρ >>= asB else M.pure false) (fun ρ => ?_) (pt_imp (PW.pt (pw_and h1 (pw_of h2))) fun σ H Q q => T.andT q)
        show (denE run a ρ >>= fun x => asB x >>= fun c => if c then denE run b ρ else M.pure (W.d (.bool false))) >>= asB = _
        rw [bind_assoc, bind_assoc]
        congr 1
        funext w
        rw [bind_assoc]
        congr 1
        funext c
        rw [ite_bind]
        rfl
    split at h
    · simp only [Bool.and_eq_true] at h
      cases t with
      | false => exact pe_imp (pe_and (sndE a g false _ h.1) (pe_one (sndE b g false _ h.2))) fun σ H Q q => T.andV q
      | true => exact tst (sndE a g true _ h.1) (PW.pt (pw_and1 (sndE b g true _ h.2))) (by simp)
    · simp only [Bool.and_eq_true] at h
      cases t with
      | false => exact pe_imp (pe_and (sndE a g false _ h.1) (sndE b g false _ h.2)) fun σ H Q q => T.andV q
      | true => exact tst (sndE a g true _ h.1) (sndE b g true _ h.2) (by simp)
    · cases h
  | .or_ a b, k, X, E', g, t, x, h => by
    simp only [chkE] at h
    have tst : ∀ {v : Expr} {vs : List Expr} {p : Pos}, PT X v (TB (cf X k.nmF cl E') fun ρ => denE run a ρ >>= asB) → PT X (.BoolOp .Or vs p) (TB (cf X k.nmF cl E') fun ρ => denE run b ρ >>= asB) → vs ≠ [] → PT X (.BoolOp .Or (v :: vs) p) (TB (cf X k.nmF cl E') fun ρ => denE run (.or_ a b) ρ >>= asB) := by
      intro v vs p h1 h2 hne
      cases vs with
      | nil => exact absurd rfl hne
      | cons w vs =>
        refine tb_eq (c := fun ρ => (denE run a ρ >>= asB) >>= fun c => if c then M.pure true else denE run b ρ >>= asB) (fun ρ => ?_) (pt_imp (PW.pt (pw_or h1 (pw_of h2))) fun σ H Q q => T.orT q)
        show (denE run a ρ >>= fun x => asB x >>= fun c => if c then M.pure (W.d (.bool true)) else denE run b ρ) >>= asB = _
        rw [bind_assoc, bind_assoc]
        congr 1
        funext w
        rw [bind_assoc]
        congr 1
        funext c
        rw [ite_bind]
        rfl
    split at h
    · simp only [Bool.and_eq_true] at h
      cases t with
      | false => exact pe_imp (pe_or (sndE a g false _ h.1) (pe_one (sndE b g false _ h.2))) fun σ H Q q => T.orV q
      | true => exact tst (sndE a g true _ h.1) (PW.pt (pw_or1 (sndE b g true _ h.2))) (by simp)
    · simp only [Bool.and_eq_true] at h
      cases t with
      | false => exact pe_imp (pe_or (sndE a g false _ h.1) (sndE b g false _ h.2)) fun σ H Q q => T.orV q
      | true => exact tst (sndE a g true _ h.1) (sndE b g true _ h.2) (by simp)
    · cases h
  | .cmp o a b, k, X, E', g, t, x, h => by
    have un := g.fit.un
    simp only [chkE] at h
    split at h
    · simp only [Bool.and_eq_true, decide_eq_true_eq, Bool.not_eq_true'] at h
      obtain ⟨⟨⟨rfl, h0⟩, h1⟩, h2⟩ := h
      cases t with
      | false => exact pe_cmpD (by omega) (sndE a g false _ h1) (sndE b g false _ h2) h0
      | true => exact pt_cmpD (by omega) (sndE a g false _ h1) (sndE b g false _ h2) h0
    · cases h
  | .cmp2 o o' a b c, k, X, E', g, t, x, h => by
    have un := g.fit.un
    simp only [chkE] at h
    split at h
    · simp only [Bool.and_eq_true, decide_eq_true_eq, Bool.not_eq_true'] at h
      obtain ⟨⟨⟨⟨⟨rfl, rfl⟩, h0⟩, h1⟩, h2⟩, h3⟩ := h
      cases t with
      | false => exact pe_cmp2D (by omega) (sndE a g false _ h1) (sndE b g false _ h2) (sndE c g false _ h3) h0
      | true => exact pt_cmp2D (by omega) (sndE a g false _ h1) (sndE b g false _ h2) (sndE c g false _ h3) h0
    · cases h
  | .ite c a b, k, X, E', g, t, x, h => by
    simp only [chkE, Bool.and_eq_true] at h
    obtain ⟨ht, h⟩ := h
    obtain rfl : t = false := by simpa using ht
    split at h
    · simp only [Bool.and_eq_true] at h
      refine pe_eq (c := fun ρ => (denE run c ρ >>= asB) >>= fun b1 => if b1 then denE run a ρ else denE run b ρ) (pe_iteD (sndE c g true _ h.1.1) (sndE a g false _ h.1.2) (sndE b g false _ h.2)) fun ρ => by
        show (denE run c ρ >>= fun x => asB x >>= fun b1 => if b1 then denE run a ρ else denE run b ρ) = _
        rw [bind_assoc]
    · cases h
  | .tup es, k, X, E', g, t, x, h => by
    simp only [chkE, Bool.and_eq_true] at h
    obtain ⟨ht, h⟩ := h
    obtain rfl : t = false := by simpa using ht
    split at h
    · exact pe_tupD (sndAs es g _ h)
    · cases h
  | .frz l, k, X, E', g, t, x, h => by
    simp only [chkE, Bool.and_eq_true] at h
    obtain ⟨ht, h⟩ := h
    obtain rfl : t = false := by simpa using ht
    exact pe_frzD (sndL l g _ h)
  | .cell l, k, X, E', g, t, x, h => by
    simp only [chkE, Bool.and_eq_true] at h
    obtain ⟨ht, h⟩ := h
    obtain rfl : t = false := by simpa using ht
    exact pe_cellD (sndL l g _ h)
  | .idx a b, k, X, E', g, t, x, h => by
    have un := g.fit.un
    simp only [chkE] at h
    split at h
    · simp only [Bool.and_eq_true] at h
      exact snd_leaf (pe_idxD (by omega) (sndE a g false _ h.1.2) (sndE b g false _ h.2) (plainIx_ok h.1.1)) fun _ => rfl
    · cases h
  | .slc a lo hi, k, X, E', g, t, x, h => by
    simp only [chkE] at h
    split at h
    · simp only [Bool.and_eq_true] at h
      exact snd_leaf (pe_slcD (sndE a g false _ h.1.1) (sndO lo g _ h.1.2) (sndO hi g _ h.2)) fun _ => rfl
    · cases h
  | .call f es, k, X, E', g, t, x, h => by
    simp only [chkE] at h
    split at h
    · simp only [Bool.and_eq_true, decide_eq_true_eq] at h
      obtain ⟨⟨⟨⟨⟨rfl, h1⟩, h2⟩, h3⟩, h4⟩, h5⟩ := h
      rename_i xs _
      obtain ⟨hl, hn⟩ := len_denA run es xs h5
      refine snd_leaf ?_ fun _ => rfl
      cases xs with
      | nil =>
        cases es with
        | nil => exact pe_call0D g.D h3 g.room g.fit.gd g.hx (g.g h1) (okN_of h2).1 (List.eq_nil_of_length_eq_zero h4)
        | cons e r => simp [chkA] at h5
        | star e r => simp [chkA] at h5
      | cons y ys =>
        rw [List.all_cons, Bool.and_eq_true] at hn
        exact pe_callD g.D h3 g.room g.fit.gd g.hx (g.g h1) (okN_of h2).1 (sndA es g _ h5) (by rw [show (k.sg cl).ps f = k.psF f from rfl, h4]; exact hl) (star_ok hn.1) (plain_ok hn.2)
    · cases h
  | .callk f es ks ps, k, X, E', g, t, x, h => by
    simp only [chkE] at h
    split at h
    · simp only [Bool.and_eq_true, decide_eq_true_eq] at h
      obtain ⟨⟨⟨⟨⟨⟨⟨⟨rfl, h1⟩, h2⟩, h3⟩, h4⟩, h5⟩, h6⟩, h7⟩, rfl⟩ := h
      rename_i xs kws _
      obtain ⟨hl, hn⟩ := len_denA run es xs h4
      have hk : kws.map (·.arg) = (kws.map fun w => w.arg.getD "").map some := of_decide_eq_true h6
      have hl2 := len_denK run ks kws h5
      rw [show kws.length = (kws.map fun w => w.arg.getD "").length by rw [List.length_map]] at hl2
      refine snd_leaf ?_ fun _ => rfl
      cases xs with
      | nil =>
        cases es with
        | nil => exact pe_callK0D g.D h3 g.room g.fit.gd g.hx (g.g h1) (okN_of h2).1 (sndK ks g _ h5) hl2 h7 (kws_ok hk).1 (kws_ok hk).2.1 (by rw [(kws_ok hk).2.2]; rfl)
        | cons e r => simp [chkA] at h4
        | star e r => simp [chkA] at h4
      | cons y ys =>
        have hn' := hn
        rw [List.all_cons, Bool.and_eq_true] at hn
        exact pe_callKD g.D h3 g.room g.fit.gd g.hx (g.g h1) (okN_of h2).1 (sndA es g _ h4) (sndK ks g _ h5) hl hl2 h7 (kws_ok hk).1 (kws_ok hk).2.1 (star_ok hn.1) (by rw [(kws_ok hk).2.2, plain_ok hn']; rfl)
    · cases h
  | .callv i es, k, X, E', g, t, x, h => by
    simp only [chkE] at h
    split at h
    · simp only [Bool.and_eq_true] at h
      obtain ⟨_, hn⟩ := len_denA run es _ h.2
      rw [List.all_cons, Bool.and_eq_true] at hn
      exact snd_leaf (pe_callvD g.D g.room g.fit.gd g.hx (g.nn h.1.1.1) (g.v h.1.1.2) (okN_of h.1.2).1 (okN_of h.1.2).2 (sndA es g _ h.2) (star_ok hn.1) (plain_ok hn.2)) fun _ => rfl
    · cases h
  | .bi b es, k, X, E', g, t, x, h => by
    simp only [chkE] at h
    split at h
    · simp only [Bool.and_eq_true, decide_eq_true_eq] at h
      obtain ⟨⟨rfl, h1⟩, h2⟩ := h
      obtain ⟨_, hn⟩ := len_denA run es _ h2
      rw [List.all_cons, Bool.and_eq_true] at hn
      exact snd_leaf (pe_biD g.fit b (g.g h1) (by cases b <;> exact g.nb _ (by decide)) (sndA es g _ h2) (star_ok hn.1) (plain_ok hn.2)) fun _ => rfl
    · cases h
  | .isi ty a, k, X, E', g, t, x, h => by
    simp only [chkE] at h
    split at h
    · simp only [Bool.and_eq_true, decide_eq_true_eq] at h
      obtain ⟨⟨⟨⟨⟨rfl, rfl⟩, h1⟩, h2⟩, h3⟩, h4⟩ := h
      exact snd_leaf (pe_isiD ty (g.g h1) (g.b (i := 11) rfl) (g.g h2) (by cases ty <;> exact g.nb _ (by decide)) (sndE a g false _ h4) (star_ok h3) rfl rfl) fun _ => rfl
    · cases h
  | .dct a, k, X, E', g, t, x, h => by
    simp only [chkE] at h
    split at h
    · simp only [Bool.and_eq_true, decide_eq_true_eq] at h
      obtain ⟨⟨⟨rfl, h1⟩, h3⟩, h4⟩ := h
      exact snd_leaf (pe_dctD g.fit (g.g h1) (g.b (i := 14) rfl) (sndE a g false _ h4) (star_ok h3) rfl) fun _ => rfl
    · cases h
  | .dcomp own tg it c ke e, k, X, E', g, t, x, h => by
    simp only [chkE, Bool.and_eq_true] at h
    obtain ⟨ht, h⟩ := h
    obtain rfl : t = false := by simpa using ht
    split at h
    · simp only [Bool.and_eq_true, List.all_eq_true, decide_eq_true_eq] at h
      obtain ⟨⟨⟨⟨⟨⟨⟨⟨h1, h2⟩, h3⟩, h4⟩, h5⟩, h6⟩, h9⟩, h7⟩, h8⟩ := h
      have ok := blk_of h1
      rw [← g.N, ← g.sc] at ok
      exact pe_imp (pe_dc (wi := TIr (cf X k.nmF cl E') (isTp it) (denI run it)) (g := TGd (cf X k.nmF cl C8.E0) (tgTp tg) (wsT tg) (denT run tg)) (tt := TB (cf X k.nmF cl C8.E0) (denC run c)) (tk := T (cf X k.nmF cl C8.E0) (denE run ke)) (tv := T (cf X k.nmF cl C8.E0) (denE run e)) g.fit.calm g.fit.nd (sndI it g _ _ h3) ok (fun s H C l fp => sndT tg (g.inn _ s H C l fp) _ h4) (fun s H C l fp => sndC c (g.inn _ s H C l fp) _ h5) (fun s H C l fp => sndE ke (g.inn _ s H C l fp) false _ h6) (fun s H C l fp => sndE e (g.inn _ s H C l fp) false _ h9) (notSet_ok h2)) fun σ H Q q =>
        T.dcomp (fun z => by rw [z] at h7; simpa using h7) h8 q
    · cases h
  | .dctC a, k, X, E', g, t, x, h => by
    simp only [chkE, Bool.and_eq_true] at h
    obtain ⟨ht, h⟩ := h
    obtain rfl : t = false := by simpa using ht
    split at h
    · simp only [Bool.and_eq_true, decide_eq_true_eq] at h
      obtain ⟨⟨⟨rfl, h1⟩, h3⟩, h4⟩ := h
      refine pe_eq (c := fun ρ => (denE run a ρ >>= dctN) >>= fun xs => newCell (.dct xs)) (pe_cellDD (pe_dctND g.fit (g.g h1) (g.b (i := 14) rfl) (sndE a g false _ h4) (star_ok h3) rfl)) fun ρ => by
        show (denE run a ρ >>= fun x => dctN x >>= fun xs => newCell (.dct xs)) = _
        rw [bind_assoc]
    · cases h
  | .app i a, k, X, E', g, t, x, h => by
    simp only [chkE] at h
    split at h
    · simp only [Bool.and_eq_true, decide_eq_true_eq] at h
      obtain ⟨⟨⟨⟨⟨⟨rfl, h1⟩, h2⟩, h3⟩, h4⟩, h5⟩, h6⟩ := h
      exact snd_leaf (pe_appD (g.nn h1) (g.v h2) (okN_of h3).1 (okN_of h3).2 (mform h4 h5) (sndE a g false _ h6)) fun _ => rfl
    · cases h
  | .ext i a, k, X, E', g, t, x, h => by
    simp only [chkE] at h
    split at h
    · simp only [Bool.and_eq_true, decide_eq_true_eq] at h
      obtain ⟨⟨⟨⟨⟨⟨rfl, h1⟩, h2⟩, h3⟩, h4⟩, h5⟩, h6⟩ := h
      exact snd_leaf (pe_extD (g.nn h1) (g.v h2) (okN_of h3).1 (okN_of h3).2 (mform h4 h5) (sndE a g false _ h6)) fun _ => rfl
    · cases h
  | .pop i a, k, X, E', g, t, x, h => by
    simp only [chkE] at h
    split at h
    · simp only [Bool.and_eq_true, decide_eq_true_eq] at h
      obtain ⟨⟨⟨⟨⟨⟨rfl, h1⟩, h2⟩, h3⟩, h4⟩, h5⟩, h6⟩ := h
      exact snd_leaf (pe_popD (g.nn h1) (g.v h2) (okN_of h3).1 (okN_of h3).2 (mform h4 h5) (sndE a g false _ h6)) fun _ => rfl
    · cases h
  | .fz a, k, X, E', g, t, x, h => by
    simp only [chkE, Bool.and_eq_true] at h
    obtain ⟨ht, h⟩ := h
    obtain rfl : t = false := by simpa using ht
    exact pe_fzD (sndE a g false _ h)
  | .scl a, k, X, E', g, t, x, h => by
    simp only [chkE] at h
    split at h
    · simp only [Bool.and_eq_true, decide_eq_true_eq] at h
      obtain ⟨⟨⟨rfl, h1⟩, h3⟩, h4⟩ := h
      exact snd_leaf (pe_sclD (g.g h1) (g.b (i := 0) rfl) (sndE a g false _ h4) (star_ok h3) rfl) fun _ => rfl
    · cases h
  | .sci a b, k, X, E', g, t, x, h => by
    simp only [chkE] at h
    split at h
    · simp only [Bool.and_eq_true] at h
      exact snd_leaf (pe_sciD (sndE a g false _ h.1.2) (sndE b g false _ h.2) (plainIx_ok h.1.1)) fun _ => rfl
    · cases h
theorem sndL {cl : Nat → Value × Str} {CX : CXT} {n : Nat} {run : Nat → List W → M W} : ∀ (l : Lf) {k : Ck} {X : Cx} {E' : XK} (g : Good k cl CX n run X E') (x : Expr), chkLf k l x = true → PE X x (TN (cf X k.nmF cl E') (denL run l))
  | .scs a h', k, X, E', g, x, h => by
    simp only [chkLf] at h
    split at h
    · simp only [Bool.and_eq_true] at h
      exact pe_scsD (sndE a g false _ h.1) (sndO h' g _ h.2)
    · cases h
  | .disp es, k, X, E', g, x, h => by
    simp only [chkLf] at h
    split at h
    · exact pe_dispD (sndAs es g _ h)
    · cases h
  | .comp own tg it c e, k, X, E', g, x, h => by
    simp only [chkLf] at h
    split at h
    · simp only [Bool.and_eq_true, List.all_eq_true, decide_eq_true_eq] at h
      obtain ⟨⟨⟨⟨⟨⟨⟨h1, h2⟩, h3⟩, h4⟩, h5⟩, h6⟩, h7⟩, h8⟩ := h
      have ok := blk_of h1
      rw [← g.N, ← g.sc] at ok
      exact pe_imp (pe_lc (wi := TIr (cf X k.nmF cl E') (isTp it) (denI run it)) (g := TGd (cf X k.nmF cl C8.E0) (tgTp tg) (wsT tg) (denT run tg)) (tt := TB (cf X k.nmF cl C8.E0) (denC run c)) (te := T (cf X k.nmF cl C8.E0) (denE run e)) g.fit.calm g.fit.nd (sndI it g _ _ h3) ok (fun s H C l fp => sndT tg (g.inn _ s H C l fp) _ h4) (fun s H C l fp => sndC c (g.inn _ s H C l fp) _ h5) (fun s H C l fp => sndE e (g.inn _ s H C l fp) false _ h6) (notSet_ok h2)) fun σ H Q q =>
        T.comp (fun z => by rw [z] at h7; simpa using h7) h8 q
    · cases h
  | .listOf a, k, X, E', g, x, h => by
    simp only [chkLf] at h
    split at h
    · simp only [Bool.and_eq_true, decide_eq_true_eq] at h
      obtain ⟨⟨⟨rfl, h1⟩, h3⟩, h4⟩ := h
      exact pe_listD g.fit (g.g h1) (g.b (i := 12) rfl) (sndE a g false _ h4) (star_ok h3) rfl
    · cases h
  | .sorted rev a, k, X, E', g, x, h => by
    simp only [chkLf] at h
    split at h
    · simp only [Bool.and_eq_true, decide_eq_true_eq] at h
      obtain ⟨⟨⟨⟨h0, rfl⟩, h1⟩, h3⟩, h4⟩ := h
      obtain rfl : rev = false := by simpa using h0
      exact pe_sortedD g.fit (g.g h1) (g.b (i := 13) rfl) (sndE a g false _ h4) (star_ok h3) rfl
    · simp only [Bool.and_eq_true, decide_eq_true_eq] at h
      obtain ⟨⟨⟨⟨⟨h0, rfl⟩, rfl⟩, h1⟩, h3⟩, h4⟩ := h
      obtain rfl := eq_of_beq h0
      exact pe_sortedRD g.fit _ (g.g h1) (g.b (i := 13) rfl) (sndE a g false _ h4) (star_ok h3) (by rw [star_ok h3]; rfl) (plain_ok (by rw [List.all_cons, h3]; rfl))
    · cases h
  | .sortedSet a, k, X, E', g, x, h => by
    simp only [chkLf] at h
    split at h
    · simp only [Bool.and_eq_true, decide_eq_true_eq] at h
      obtain ⟨⟨⟨⟨⟨rfl, rfl⟩, h1⟩, h2⟩, h3⟩, h4⟩ := h
      exact pe_sortedSetD g.fit (g.g h1) (g.b (i := 13) rfl) (g.g h2) (g.b (i := 20) rfl) (sndE a g false _ h4) (star_ok h3)
    · cases h
  | .rev a, k, X, E', g, x, h => by
    simp only [chkLf] at h
    split at h
    · simp only [Bool.and_eq_true, decide_eq_true_eq] at h
      obtain ⟨rfl, h4⟩ := h
      exact pe_revD (sndE a g false _ h4)
    · cases h
  | .slcL a lo hi, k, X, E', g, x, h => by
    simp only [chkLf] at h
    split at h
    · simp only [Bool.and_eq_true] at h
      exact pe_slcND (sndE a g false _ h.1.1) (sndO lo g _ h.1.2) (sndO hi g _ h.2)
    · cases h
  | .cat a b, k, X, E', g, x, h => by
    simp only [chkLf] at h
    split at h
    · simp only [Bool.and_eq_true] at h
      exact pe_catD (sndE a g false _ h.1) (sndE b g false _ h.2)
    · cases h
theorem sndA {cl : Nat → Value × Str} {CX : CXT} {n : Nat} {run : Nat → List W → M W} : ∀ (l : Es) {k : Ck} {X : Cx} {E' : XK} (g : Good k cl CX n run X E') (x : List Expr), chkA k l x = true → PA X x (TAr (cf X k.nmF cl E') (denA run l))
  | .nil, k, X, E', g, x, h => by
    simp only [chkA] at h
    split at h
    · exact pa_nilD
    · cases h
  | .cons e r, k, X, E', g, x, h => by
    simp only [chkA] at h
    split at h
    · simp only [Bool.and_eq_true] at h
      exact pa_consX h.1.1 (sndE e g false _ h.1.2) (sndA r g _ h.2)
    · cases h
  | .star e r, k, X, E', g, x, h => by simp [chkA] at h
theorem sndAs {cl : Nat → Value × Str} {CX : CXT} {n : Nat} {run : Nat → List W → M W} : ∀ (l : Es) {k : Ck} {X : Cx} {E' : XK} (g : Good k cl CX n run X E') (x : List Expr), chkAs k l x = true → PA X x (TAr (cf X k.nmF cl E') (denA run l))
  | .nil, k, X, E', g, x, h => by
    simp only [chkAs] at h
    split at h
    · exact pa_nilD
    · cases h
  | .cons e r, k, X, E', g, x, h => by
    simp only [chkAs] at h
    split at h
    · simp only [Bool.and_eq_true] at h
      exact pa_consX h.1.1 (sndE e g false _ h.1.2) (sndAs r g _ h.2)
    · cases h
  | .star e r, k, X, E', g, x, h => by
    simp only [chkAs] at h
    split at h
    · simp only [Bool.and_eq_true] at h
      exact pa_starD (sndE e g false _ h.1) (sndAs r g _ h.2)
    · cases h
theorem sndK {cl : Nat → Value × Str} {CX : CXT} {n : Nat} {run : Nat → List W → M W} : ∀ (l : Es) {k : Ck} {X : Cx} {E' : XK} (g : Good k cl CX n run X E') (x : List Keyword), chkK k l x = true → PK X x (TAr (cf X k.nmF cl E') (denA run l))
  | .nil, k, X, E', g, x, h => by
    simp only [chkK] at h
    split at h
    · exact pk_nilD
    · cases h
  | .cons e r, k, X, E', g, x, h => by
    simp only [chkK] at h
    split at h
    · simp only [Bool.and_eq_true] at h
      exact pk_consD (sndE e g false _ h.1) (sndK r g _ h.2)
    · cases h
  | .star e r, k, X, E', g, x, h => by simp [chkK] at h
theorem sndO {cl : Nat → Value × Str} {CX : CXT} {n : Nat} {run : Nat → List W → M W} : ∀ (l : Es) {k : Ck} {X : Cx} {E' : XK} (g : Good k cl CX n run X E') (x : Option Expr), chkO k l x = true → PO X x (TO' (cf X k.nmF cl E') (denO run l))
  | .nil, k, X, E', g, x, h => by
    simp only [chkO] at h
    split at h
    · exact po_noneD
    · cases h
  | .cons e r, k, X, E', g, x, h => by
    cases r with
    | nil =>
      cases x with
      | none => simp [chkO] at h
      | some y => exact po_someD (sndE e g false _ (by simpa only [chkO] using h))
    | cons _ _ => simp [chkO] at h
    | star _ _ => simp [chkO] at h
  | .star e r, k, X, E', g, x, h => by simp [chkO] at h
theorem sndC {cl : Nat → Value × Str} {CX : CXT} {n : Nat} {run : Nat → List W → M W} : ∀ (l : Es) {k : Ck} {X : Cx} {E' : XK} (g : Good k cl CX n run X E') (x : List Expr), chkC k l x = true → PTs X x (TB (cf X k.nmF cl E') (denC run l))
  | .nil, k, X, E', g, x, h => by
    simp only [chkC] at h
    split at h
    · exact ptsYes
    · cases h
  | .cons e r, k, X, E', g, x, h => by
    cases r with
    | nil =>
      cases x with
      | nil => simp [chkC] at h
      | cons y ys =>
        cases ys with
        | nil => exact pts_one (sndE e g true _ (by simpa only [chkC] using h))
        | cons _ _ => simp [chkC] at h
    | cons _ _ => simp [chkC] at h
    | star _ _ => simp [chkC] at h
  | .star e r, k, X, E', g, x, h => by simp [chkC] at h
theorem sndI {cl : Nat → Value × Str} {CX : CXT} {n : Nat} {run : Nat → List W → M W} : ∀ (l : It) {k : Ck} {X : Cx} {E' : XK} (g : Good k cl CX n run X E') (tg x : Expr), chkI k l tg x = true → PI X tg x (TIr (cf X k.nmF cl E') (isTp l) (denI run l))
  | .seq a, k, X, E', g, tg, x, h => pi_seqD (sndE a g false _ (by simpa only [chkI] using h))
  | .range1 a, k, X, E', g, tg, x, h => by
    simp only [chkI] at h
    split at h
    · simp only [Bool.and_eq_true, decide_eq_true_eq] at h
      obtain ⟨⟨⟨rfl, h1⟩, h3⟩, h4⟩ := h
      exact pi_rng1D (g.g h1) (g.b (i := 17) rfl) (sndE a g false _ h4) (star_ok h3) (star_ok h3)
    · cases h
  | .range2 a b, k, X, E', g, tg, x, h => by
    simp only [chkI] at h
    split at h
    · simp only [Bool.and_eq_true, decide_eq_true_eq] at h
      obtain ⟨⟨⟨⟨⟨rfl, h1⟩, h2⟩, h3⟩, h4⟩, h5⟩ := h
      exact pi_rng2D (g.g h1) (g.b (i := 17) rfl) (sndE a g false _ h4) (sndE b g false _ h5) (star_ok h2) (star_ok h3) (by rw [star_ok h2, star_ok h3]; rfl) (star_ok h3)
    · cases h
  | .enum a, k, X, E', g, tg, x, h => by
    simp only [chkI] at h
    split at h
    · simp only [Bool.and_eq_true, decide_eq_true_eq] at h
      obtain ⟨⟨⟨⟨h0, rfl⟩, h1⟩, h3⟩, h4⟩ := h
      cases tg <;> first | (cases h0; done) | exact pi_enumD (g.g h1) (g.b (i := 18) rfl) (sndE a g false _ h4) (star_ok h3) (star_ok h3)
    · cases h
  | .zip a b, k, X, E', g, tg, x, h => by
    simp only [chkI] at h
    split at h
    · simp only [Bool.and_eq_true, decide_eq_true_eq] at h
      obtain ⟨⟨⟨⟨⟨⟨h0, rfl⟩, h1⟩, h2⟩, h3⟩, h4⟩, h5⟩ := h
      cases tg <;> first | (cases h0; done) | exact pi_zipD (g.g h1) (g.b (i := 19) rfl) (sndE a g false _ h4) (sndE b g false _ h5) (star_ok h2) (star_ok h3) (plain_ok (by rw [List.all_cons, h3]; rfl))
    · cases h
theorem sndT {cl : Nat → Value × Str} {CX : CXT} {n : Nat} {run : Nat → List W → M W} : ∀ (l : Tg) {k : Ck} {X : Cx} {E' : XK} (g : Good k cl CX n run X E') (x : Expr), chkTg k l x = true → PG X x (TGd (cf X k.nmF cl E') (tgTp l) (wsT l) (denT run l))
  | .nm i, k, X, E', g, x, h => by
    simp only [chkTg] at h
    split at h
    · simp only [Bool.and_eq_true] at h
      exact pg_nmD g.fit.nd (g.nn h.1) (g.t h.2).1 (g.t h.2).2
    · cases h
  | .tp ts, k, X, E', g, x, h => by
    simp only [chkTg] at h
    split at h
    · obtain ⟨h1, h2⟩ := len_tgs ts _ h
      obtain ⟨h3, h4⟩ := asg_len (env := X.env) h2
      exact pg_tpD g.fit.calm (sndTs ts g _ h) (h3.trans h1.symm) h4
    · cases h
  | .sub i e, k, X, E', g, x, h => by
    simp only [chkTg] at h
    split at h
    · simp only [Bool.and_eq_true] at h
      exact pg_subD (p2 := ⟨0, 0, 0, 0⟩) (g.nn h.1.1.1.1) (g.v h.1.1.1.2) (okN_of h.1.1.2).1 (okN_of h.1.1.2).2 (sndE e g false _ h.2) (asg_sub h.1.2)
    · cases h
  | .put i e, k, X, E', g, x, h => by
    have un := g.fit.un
    simp only [chkTg] at h
    split at h
    · simp only [Bool.and_eq_true] at h
      exact pg_putD (p2 := ⟨0, 0, 0, 0⟩) (by omega) (g.nn h.1.1.1.1) (g.v h.1.1.1.2) (okN_of h.1.1.2).1 (okN_of h.1.1.2).2 (sndE e g false _ h.2) (asg_sub h.1.2)
    · cases h
theorem sndTs {cl : Nat → Value × Str} {CX : CXT} {n : Nat} {run : Nat → List W → M W} : ∀ (l : Tgs) {k : Ck} {X : Cx} {E' : XK} (g : Good k cl CX n run X E') (x : List Expr), chkTgs k l x = true → PGs X x (TGsd (cf X k.nmF cl E') (wsTs l) (denTs run l))
  | .nil, k, X, E', g, x, h => by
    simp only [chkTgs] at h
    split at h
    · exact pgs_eq (fun ds ρ => by cases ds <;> rfl) pgs_nilD
    · cases h
  | .cons t r, k, X, E', g, x, h => by
    simp only [chkTgs] at h
    split at h
    · simp only [Bool.and_eq_true] at h
      exact pgs_eq (fun ds ρ => by cases ds <;> rfl) (pgs_consD (sndT t g _ h.1.2) (sndTs r g _ h.2) (by rw [asg_ok h.1.1]; rfl))
    · cases h
end
end Gd
namespace Gd
open PySem PySem.Spec L2
section
variable {k : Ck} {cl : Nat → Value × Str} {CX : CXT} {n : Nat} {run : Nat → List W → M W} {X : Cx} {E' : XK}
theorem swaps_off {k : Ck} {tg v : Expr} {m : Nat} {env : Env} (hs : env.scope = k.sc) (h : swapB k tg v = false) (q : (notComp v || notName tg || isLC v) = true) : swapsWithSole [tg] v m env = pure false := by
  by_cases h1 : notComp v = true
  · exact swaps_sole h1
  by_cases h2 : notName tg = true
  · exact swaps_tgt (by cases tg <;> first | rfl | cases h2)
  have h3 : isLC v = true := by
    cases e1 : notComp v <;> cases e2 : notName tg <;> cases e3 : isLC v <;> simp_all
  cases v <;> first | (cases h3; done) | skip
  rename_i elt gens scope pos
  cases tg <;> first | exact absurd rfl h2 | skip
  rename_i y py
  have h : (k.loc y && (py.line == pos.line) && !(scope.names.any fun p => p.1 == y && (p.2 == .local || p.2 == .cell))) = false := h
  have ke : (env.kindOf y == some .local) = k.loc y := by
    show (env.scope.names.lookup y == some .local) = decide (k.sc.names.lookup y = some .local)
    rw [hs]
    by_cases z : k.sc.names.lookup y = some NameKind.local
    · rw [z]; rfl
    · rw [decide_eq_false z]
      exact beq_false_of_ne z
  show (pure (env.blockKind == .function && env.kindOf y == some .local && py.line == pos.line && !(scope.names.any fun (n, k) => n == y && (k == .local || k == .cell))) : Sem Bool) = pure false
  congr 1
  rw [ke]
  cases (env.blockKind == .function) with
  | false => rfl
  | true =>
    rw [Bool.true_and]
    exact h
theorem swaps_on {k : Ck} {elt : Expr} {gens : List Comprehension} {scope : Scope} {pos py : Pos} {y : Str} {m : Nat} {env : Env} (hk : env.scope.kind = .function) (hs : env.scope = k.sc) (h : swapB k (.Name y py) (.ListComp elt gens scope pos) = true) :
    swapsWith (.ListComp elt gens scope pos) (some (.Name y py)) m env = pure true := by
  have h : (k.loc y && (py.line == pos.line) && !(scope.names.any fun p => p.1 == y && (p.2 == .local || p.2 == .cell))) = true := h
  simp only [Bool.and_eq_true, Bool.not_eq_true'] at h
  exact sw_true hk (by rw [hs]; exact loc_of h.1.1) h.1.2 h.2
theorem T.asgN {ca : Rho → M W} {i : Nat} {te : TE} {nm : Nat → Str} {σ : L2.St} {H : Hp} {D : Ends} (ht : ∀ σ H Q, T (cf X nm cl E') ca σ H Q → te σ H Q) (h : TSd (cf X nm cl E') (fun ρ => ca ρ >>= fun w => M.pure (ρ.set i (some w)) >>= fun ρ' => M.pure (.nx, ρ')) D σ H) : tAsg te (gName i) D σ H := by
  obtain ⟨ρ, st, j, Z, rel, sl, h⟩ := h
  exact ht _ _ _ (T.thenS (k := fun w => M.pure (ρ.set i (some w)) >>= fun ρ' => M.pure (.nx, ρ')) rel sl h fun v w H1 j1 st1 r1 w1 k1 sl1 h1 => h1 _ H1 j1 r1 (sl1.set i w1) Keep.refl)
theorem setLc_ok {own : List (Str × Nat)} {tg : Tg} {it : It} {c : Es} {e : E} {v : Expr} {i : Nat} {y : Str} {py pos : Pos} {mk : List PyData → M W} (g : Good k cl CX n run X E') (hk : X.env.scope.kind = .function) (h : chkLf k (.comp own tg it c e) v = true) (hs : swapB k (.Name y py) v = true) (hi : k.at_ i y = true)
    (mkT : ∀ cn : Rho → M (List PyData), ∀ σ H Q, T (cf X k.nmF cl E') (fun ρ => cn ρ >>= mk) σ H Q → TN (cf X k.nmF cl E') cn σ H Q) :
    PS X (.Assign [.Name y py] v pos) (TSd (cf X k.nmF cl E') fun ρ => (denL run (.comp own tg it c e) ρ >>= mk) >>= fun w => M.pure (ρ.set i (some w)) >>= fun ρ' => M.pure (.nx, ρ')) := by
  simp only [chkLf] at h
  split at h
  · simp only [Bool.and_eq_true, List.all_eq_true, decide_eq_true_eq] at h
    obtain ⟨⟨⟨⟨⟨⟨⟨h1, h2⟩, h3⟩, h4⟩, h5⟩, h6⟩, h7⟩, h8⟩ := h
    have ok := blk_of h1
    rw [← g.N, ← g.sc] at ok
    have hl : k.loc y = true := by
      have hs := hs
      simp only [swapB, Bool.and_eq_true] at hs
      exact hs.1.1
    exact ps_imp (ps_setLc (wi := TIr (cf X k.nmF cl E') (isTp it) (denI run it)) (g := TGd (cf X k.nmF cl C8.E0) (tgTp tg) (wsT tg) (denT run tg)) (tt := TB (cf X k.nmF cl C8.E0) (denC run c)) (te := T (cf X k.nmF cl C8.E0) (denE run e)) g.fit.calm g.fit.nd (g.nn hi) (g.l hl) (swaps_on hk g.sc hs) (sndI it g _ _ h3) ok (fun s H C l fp => sndT tg (g.inn _ s H C l fp) _ h4) (fun s H C l fp => sndC c (g.inn _ s H C l fp) _ h5) (fun s H C l fp => sndE e (g.inn _ s H C l fp) false _ h6) (notSet_ok h2)) fun D σ H q =>
      T.asgN (ca := fun ρ => denL run (.comp own tg it c e) ρ >>= mk) (fun σ H Q q => T.comp (ct := denT run tg) (cc := denC run c) (ca := denE run e) (fun z => by rw [z] at h7; simpa using h7) h8 (mkT _ σ H Q q)) q
  · cases h
theorem swapped_off {k : Ck} {tg v : Expr} {env : Env} (hs : env.scope = k.sc) (h : (notTup tg || notTup v || mixB k tg v) = true) : swappedStores [tg] v env = pure none := by
  rw [Bool.or_eq_true] at h
  rcases h with h | h
  · exact swapped_none h
  cases tg <;> first | (cases h; done) | skip
  rename_i ts kt pt
  cases v <;> first | (cases h; done) | skip
  rename_i vs kv pv
  change (ts.any (outB k) || !(ts.length == 2 || ts.length == 3)) = true at h
  rw [Bool.or_eq_true] at h
  rcases h with h | h
  case inr =>
    unfold swappedStores
    dsimp only
    rw [h]
    rfl
  have key : ∀ (f : Expr → Option Str), (∀ t, outB k t = true → f t = none) → (ts.filterMap f).length ≠ ts.length := by
    intro f hf e
    have lt : (ts.filterMap f).length < ts.length := by
      clear e
      induction ts with
      | nil => cases h
      | cons t r ih =>
        rw [List.any_cons, Bool.or_eq_true] at h
        rcases h with h | h
        · rw [List.filterMap_cons, hf t h]
          exact Nat.lt_succ_of_le (List.length_filterMap_le f r)
        · have := ih h
          rw [List.filterMap_cons]
          cases f t with
          | none => exact Nat.lt_succ_of_lt this
          | some _ => exact Nat.succ_lt_succ this
    omega
  unfold swappedStores
  dsimp only
  split
  · rfl
  split
  · rfl
  refine (if_pos ?_).trans rfl
  · rw [Bool.or_eq_true]
    refine .inl ?_
    rw [bne_iff_ne]
    refine key _ fun t ht => ?_
    cases t with
    | Name id pos =>
      have ht : (!k.loc id) = true := ht
      have ke : (env.kindOf id == some .local) = false := by
        show (env.scope.names.lookup id == some .local) = false
        rw [hs]
        refine beq_false_of_ne fun z => ?_
        have : k.loc id = true := decide_eq_true z
        rw [this] at ht
        cases ht
      simp [ke]
    | _ => rfl
theorem swapped_two {a b : Expr} {x y : Str} {px py p2 pt : Pos} {kt k2 : Nat} {k : Ck} {env : Env} (hk : env.scope.kind = .function) (hs : env.scope = k.sc) (h : parB k x y px py a b = true) :
    swappedStores [.Tuple [.Name x px, .Name y py] kt pt] (.Tuple [a, b] k2 p2) env = pure (some [x, y]) := by
  unfold parB at h
  simp only [Bool.and_eq_true, Bool.not_eq_true', decide_eq_true_eq] at h
  obtain ⟨⟨⟨⟨⟨⟨⟨h1, h2⟩, h3⟩, h4⟩, h5⟩, h6⟩, h7⟩, h8⟩ := h
  have kx : (env.kindOf x == some .local) = true := by
    show (env.scope.names.lookup x == some .local) = true
    rw [hs, loc_of h1]; rfl
  have ky : (env.kindOf y == some .local) = true := by
    show (env.scope.names.lookup y == some .local) = true
    rw [hs, loc_of h2]; rfl
  have hb : (env.blockKind != .function) = false := by unfold Env.blockKind; rw [hk]; rfl
  have st : ∀ f : Expr → Bool, (∀ x, notStar x = true → f x = false) → [a, b].any f = false := fun f hf => by
    simp [hf a h4, hf b h5]
  have dd : ([x, y] : List Str).eraseDups.length = 2 := by
    have : (y == x) = false := by simpa using fun z : y = x => h3 z.symm
    simp [List.eraseDups_cons, this]
  unfold swappedStores
  dsimp only
  rw [hb, st _ (fun x hx => by cases x <;> first | rfl | cases hx), h7, h8]
  simp only [List.filterMap_cons, List.filterMap_nil, kx, ky, List.head?_cons, Option.map_some, Option.getD_some, Expr.pos, beq_self_eq_true, h6, Bool.and_self, if_true, dd]
  rfl
theorem swapped_three {a b c : Expr} {x y z : Str} {px py pz p2 pt : Pos} {kt k2 : Nat} {k : Ck} {env : Env} (hk : env.scope.kind = .function) (hs : env.scope = k.sc) (h : par3B k x y z px py pz a b c = true) :
    swappedStores [.Tuple [.Name x px, .Name y py, .Name z pz] kt pt] (.Tuple [a, b, c] k2 p2) env = pure (some [x, y, z]) := by
  unfold par3B at h
  simp only [Bool.and_eq_true, Bool.not_eq_true', decide_eq_true_eq] at h
  obtain ⟨⟨⟨⟨⟨⟨⟨⟨⟨⟨⟨⟨h1, h2⟩, h0⟩, h3⟩, h31⟩, h32⟩, h4⟩, h5⟩, h51⟩, h6⟩, h61⟩, h7⟩, h8⟩ := h
  have kk : ∀ {w : Str}, k.loc w = true → (env.kindOf w == some .local) = true := fun {w} q => by
    show (env.scope.names.lookup w == some .local) = true
    rw [hs, loc_of q]; rfl
  have kx := kk h1
  have ky := kk h2
  have kz := kk h0
  have hb : (env.blockKind != .function) = false := by unfold Env.blockKind; rw [hk]; rfl
  have st : ∀ f : Expr → Bool, (∀ x, notStar x = true → f x = false) → [a, b, c].any f = false := fun f hf => by
    simp [hf a h4, hf b h5, hf c h51]
  have dd : ([x, y, z] : List Str).eraseDups.length = 3 := by
    have e1 : (y == x) = false := by simpa using fun z : y = x => h3 z.symm
    have e2 : (z == x) = false := by simpa using fun q : z = x => h31 q.symm
    have e3 : (z == y) = false := by simpa using fun q : z = y => h32 q.symm
    simp [List.eraseDups_cons, e1, e2, e3]
  unfold swappedStores
  dsimp only
  rw [hb, st _ (fun x hx => by cases x <;> first | rfl | cases hx), h7, h8]
  simp only [List.filterMap_cons, List.filterMap_nil, kx, ky, kz, List.head?_cons, Option.map_some, Option.getD_some, Expr.pos, beq_self_eq_true, h6, h61, Bool.and_self, if_true, dd]
  rfl
end
mutual
theorem sndS {cl : Nat → Value × Str} {CX : CXT} {n : Nat} {run : Nat → List W → M W} : ∀ (l : S) {k : Ck} {X : Cx} {E' : XK} (g : Good k cl CX n run X E') (hk : X.env.scope.kind = .function) (hp : PassesOwn (model X.prog X.w) X.A X.env X.xe) (x : Stmt), chkS k l x = true → PS X x (TSd (cf X k.nmF cl E') (denS run l))
  | .asg t e, k, X, E', g, hk, hp, x, h => by
    simp only [chkS] at h
    split at h
    · rename_i tg v pos
      simp only [Bool.and_eq_true] at h
      obtain ⟨⟨h1, h2⟩, h3⟩ := h
      cases hs : swapB k tg v with
      | true =>
        rw [hs, if_pos rfl] at h3
        have ex : ∃ y py, tg = .Name y py := by
          cases tg <;> first | exact ⟨_, _, rfl⟩ | (simp [swapB] at hs)
        obtain ⟨y, py, rfl⟩ := ex
        have ti : ∃ i, t = .nm i := by
          cases t <;> first | exact ⟨_, rfl⟩ | (simp [chkTg] at h1)
        obtain ⟨i, rfl⟩ := ti
        simp only [chkTg, Bool.and_eq_true] at h1
        cases e with
        | frz l =>
          cases l with
          | comp a b c d f =>
            simp only [chkE, Bool.and_eq_true] at h2
            exact setLc_ok g hk h2.2 hs h1.1 (mk := fun xs => M.pure (.d (.list xs))) fun cn σ H Q q => T.frz q
          | _ => cases h3
        | cell l =>
          cases l with
          | comp a b c d f =>
            simp only [chkE, Bool.and_eq_true] at h2
            exact setLc_ok g hk h2.2 hs h1.1 (mk := fun xs => newCell (.lst xs)) fun cn σ H Q q => T.cell q
          | _ => cases h3
        | _ => cases h3
      | false =>
        rw [hs, if_neg Bool.false_ne_true] at h3
        unfold quietB at h3
        rw [Bool.and_eq_true] at h3
        have ha : (assignEach [tg] X.env).map (·.2) = [assign tg X.env] := by
          cases tg <;> first | rfl | (cases t <;> simp [chkTg] at h1)
        exact ps_asgD (sndE e g false _ h2) (sndT t g _ h1) (swaps_off g.sc hs h3.1) (swapped_off g.sc h3.2) ha
    · cases h
  | .par i j a b, k, X, E', g, hk, hp, x, h => by
    simp only [chkS] at h
    split at h
    · simp only [Bool.and_eq_true, decide_eq_true_eq] at h
      obtain ⟨⟨⟨⟨⟨h1, h2⟩, h3⟩, h4⟩, h5⟩, h6⟩ := h
      have p := h4
      unfold parB at p
      simp only [Bool.and_eq_true] at p
      obtain ⟨⟨⟨⟨⟨⟨⟨q1, q2⟩, q3⟩, q4⟩, q5⟩, q6⟩, q7⟩, q8⟩ := p
      exact ps_parD g.fit.calm g.fit.nd (g.nn h1) (g.nn h2) h3 (g.l q1) (g.l q2) (sndE a g false _ h5) (sndE b g false _ h6) (star_ok q4) (star_ok q5) (swapped_two hk g.sc h4) rfl
    · cases h
  | .par3 i j l a b c, k, X, E', g, hk, hp, x, h => by
    simp only [chkS] at h
    split at h
    · simp only [Bool.and_eq_true, decide_eq_true_eq] at h
      obtain ⟨⟨⟨⟨⟨⟨⟨⟨⟨h1, h2⟩, h20⟩, h3⟩, h31⟩, h32⟩, h4⟩, h5⟩, h6⟩, h7⟩ := h
      have p := h4
      unfold par3B at p
      simp only [Bool.and_eq_true] at p
      obtain ⟨⟨⟨⟨⟨⟨⟨⟨⟨⟨⟨⟨q1, q2⟩, q0⟩, q3⟩, q31⟩, q32⟩, q4⟩, q5⟩, q51⟩, q6⟩, q61⟩, q7⟩, q8⟩ := p
      exact ps_par3D g.fit.calm g.fit.nd (g.nn h1) (g.nn h2) (g.nn h20) h3 h31 h32 (g.l q1) (g.l q2) (g.l q0) (sndE a g false _ h5) (sndE b g false _ h6) (sndE c g false _ h7) (star_ok q4) (star_ok q5) (star_ok q51) (swapped_three hk g.sc h4) rfl
    · cases h
  | .ex e, k, X, E', g, hk, hp, x, h => by
    simp only [chkS] at h
    split at h
    · simp only [Bool.and_eq_true] at h
      exact ps_exD (sndE e g false _ h.2) (swaps_none h.1 _)
    · cases h
  | .ret e, k, X, E', g, hk, hp, x, h => by
    simp only [chkS] at h
    split at h
    · exact ps_retD (sndE e g false _ h)
    · cases e with
      | cst d =>
        obtain rfl := eqD_eq _ _ h
        exact ps_retND
      | _ => cases h
    · cases h
  | .iff c t f, k, X, E', g, hk, hp, x, h => by
    simp only [chkS] at h
    split at h
    · simp only [Bool.and_eq_true] at h
      refine ps_imp (ps_iffD (sndE c g true _ h.1.1) (sndSs t g hk hp _ h.1.2) (sndSs f g hk hp _ h.2)) fun D σ H q => ?_
      have : (fun ρ => (denE run c ρ >>= asB) >>= fun b => if b then denSs run t ρ else denSs run f ρ) = denS run (.iff c t f) := by
        funext ρ
        show _ = (denE run c ρ >>= fun x => asB x >>= fun b => if b then denSs run t ρ else denSs run f ρ)
        rw [bind_assoc]
      rw [this]
      exact q
    · cases h
  | .for_ t it b, k, X, E', g, hk, hp, x, h => by
    simp only [chkS] at h
    split at h
    · simp only [Bool.and_eq_true] at h
      obtain ⟨⟨⟨⟨h1, h2⟩, h3⟩, h4⟩, h5⟩ := h
      exact ps_forD hp g.fit.calm (sndI it g _ _ h2) (sndT t g _ h3) (sndSs b g hk hp _ h5) (fun z => by rw [z] at h4; simpa using h4) (notSet_ok h1)
    · cases h
  | .wh c b, k, X, E', g, hk, hp, x, h => by
    simp only [chkS] at h
    split at h
    · simp only [Bool.and_eq_true] at h
      exact ps_whD WT hp (sndE c g true _ h.1) (sndSs b g hk hp _ h.2)
    · cases h
  | .never, k, X, E', g, hk, hp, x, h => ps_neverD
theorem sndSs {cl : Nat → Value × Str} {CX : CXT} {n : Nat} {run : Nat → List W → M W} : ∀ (l : Ss) {k : Ck} {X : Cx} {E' : XK} (g : Good k cl CX n run X E') (hk : X.env.scope.kind = .function) (hp : PassesOwn (model X.prog X.w) X.A X.env X.xe) (x : List Stmt), chkSs k l x = true → PSs X x (TSd (cf X k.nmF cl E') (denSs run l))
  | .nil, k, X, E', g, hk, hp, x, h => by
    simp only [chkSs] at h
    split at h
    · exact pss_nilD
    · cases h
  | .cons s r, k, X, E', g, hk, hp, x, h => by
    simp only [chkSs] at h
    split at h
    · simp only [Bool.and_eq_true] at h
      refine pss_imp (pss_consD (sndS s g hk hp _ h.1) (sndSs r g hk hp _ h.2)) fun D σ H q => ?_
      have : andS (denS run s) (denSs run r) = denSs run (.cons s r) := by
        funext ρ
        rfl
      rw [this]
      exact q
    · cases h
end
end Gd
namespace Gd
open PySem PySem.Spec PyProof.Rows L2
section
variable {K : PySem.W.Frag} {mg : Str → Option Value} {nm : Nat → Str} {H H' : Hp} {j j' : List Addr} {st s' : Sto} {Z : Addr → Prop}
theorem take_at {α : Type} {l : List α} {n i : Nat} {a : α} (h : (l.take n)[i]? = some a) : l[i]? = some a ∧ i < n := by
  rw [List.getElem?_take] at h
  split at h
  · exact ⟨h, by assumption⟩
  · cases h
theorem Rel.sel {j2 : List Addr} {s2 : Sto} (r : Rel K H j st Z) (f : Nat → Nat) (hl : j2.length = s2.length) (h : ∀ i a c, j2[i]? = some a → s2[i]? = some c → j[f i]? = some a ∧ st[f i]? = some c) (inj : ∀ i i', i < j2.length → i' < j2.length → f i = f i' → i = i') :
    Rel K H j2 s2 Z ∧ ∀ a, Lv j2 s2 a → Lv j st a := by
  have lv : ∀ a, Lv j2 s2 a → Lv j st a := fun a ⟨i, c, h1, h2, h3⟩ => ⟨f i, c, (h i a c h1 h2).1, (h i a c h1 h2).2, h3⟩
  refine ⟨⟨hl, fun i i' a c c' h1 h2 h3 h4 n1 n2 => ?_, fun i a c h1 h2 => ?_, fun a q => ⟨fun z => (r.own a q).1 (lv a z), (r.own a q).2⟩⟩, lv⟩
  · exact inj i i' (List.getElem?_eq_some_iff.mp h1).1 (List.getElem?_eq_some_iff.mp h2).1 (r.inj _ _ a c c' (h i a c h1 h3).1 (h i' a c' h2 h4).1 (h i a c h1 h3).2 (h i' a c' h2 h4).2 n1 n2)
  · exact (r.cell _ a c (h i a c h1 h2).1 (h i a c h1 h2).2).mono fun b z => z.imp (lv b) id
theorem Rel.take (r : Rel K H j st Z) (n : Nat) : Rel K H (j.take n) (st.take n) Z ∧ ∀ a, Lv (j.take n) (st.take n) a → Lv j st a :=
  r.sel id (by rw [List.length_take, List.length_take, r.len]) (fun i a c h1 h2 => ⟨(take_at h1).1, (take_at h2).1⟩) fun i i' _ _ h => h
theorem Keep.sub {j2 : List Addr} {s2 : Sto} (k : Keep H j st H' j' s') (h : ∀ a, Lv j2 s2 a → Lv j' s' a) (hr : ∀ (l : Nat) (a : Addr), j[l]? = some a → j'[l]? = some a → j2[l]? = some a) : Keep H j st H' j2 s2 :=
  ⟨⟨fun a o e n t => ⟨(k.ext.old a o e n t).1, fun z => (k.ext.old a o e n t).2 (h a z)⟩, k.ext.frz⟩, fun l a e => hr l a e (k.rf l a e)⟩
theorem gc_dat {Q : VK} {w : W} (hw : ∀ l, w ≠ .r l) {d0 : Sto} (hn : st.length = j.length) (q : OkW K mg nm H j st Z Q w (s'.take st.length)) {v : V} (r : Rel K H' j' s' Z) (wr : Wr K mg nm H' j' s' Z v w) (k : Keep H j st H' j' s') : Q v H' := by
  obtain ⟨r2, lv⟩ := r.take st.length
  refine q v H' (j'.take st.length) r2 ?_ (k.sub lv fun l a e e' => ?_)
  · have ex : Ext H' (Lz j' s' Z) H' (Lz (j'.take st.length) (s'.take st.length) Z) := Ext.sub fun a z => z.imp (lv a) id
    cases w with
    | d x => exact Dr.ext ex wr
    | r l => exact absurd rfl (hw l)
    | f m => exact wr
    | s ns =>
      obtain ⟨a, e, p⟩ := wr
      exact ⟨a, e, p.elim (fun ⟨o, h, m⟩ => .inl ⟨o, h, fun z => m (z.imp (lv a) id)⟩) .inr⟩
  · rw [List.getElem?_take_of_lt (by rw [hn]; exact (List.getElem?_eq_some_iff.mp e).1)]
    exact e'
theorem gc_out {Q : VK} {E : XK} {cl : Nat → Value × Str} {w : W} (hn : st.length = j.length) {v : V} (h : RWx (gcW st.length (.ok w s')) (OkW K mg nm H j st Z Q) (OkX K cl H j st Z E)) (r : Rel K H' j' s' Z) (wr : Wr K mg nm H' j' s' Z v w) (k : Keep H j st H' j' s') : Q v H' := by
  cases w with
  | d x => exact gc_dat (d0 := []) (by intro l z; cases z) hn h r wr k
  | f x => exact gc_dat (d0 := []) (by intro l z; cases z) hn h r wr k
  | s x => exact gc_dat (d0 := []) (by intro l z; cases z) hn h r wr k
  | r l =>
    obtain ⟨a, rfl, ha⟩ := wr
    unfold gcW at h
    dsimp only at h
    by_cases lt : l < st.length
    · rw [if_pos lt] at h
      obtain ⟨r2, lv⟩ := r.take st.length
      refine h (.ref a) H' (j'.take st.length) r2 ⟨a, rfl, by rw [List.getElem?_take_of_lt lt]; exact ha⟩ (k.sub lv fun l a e e' => ?_)
      rw [List.getElem?_take_of_lt (by rw [hn]; exact (List.getElem?_eq_some_iff.mp e).1)]
      exact e'
    · rw [if_neg lt] at h
      cases hc : s'[l]? with
      | none => rw [hc] at h; exact h.elim
      | some c =>
        rw [hc] at h
        have hjl : l < j'.length := (List.getElem?_eq_some_iff.mp ha).1
        have lj : (j'.take st.length).length = st.length := by rw [List.length_take]; omega
        have ls : (s'.take st.length).length = st.length := by rw [List.length_take, ← r.len]; omega
        have at2 : ∀ {α : Type} {xs : List α} {y b : α} {i : Nat}, xs.length = st.length → (xs ++ [y])[i]? = some b → (i < st.length ∧ xs[i]? = some b) ∨ (i = st.length ∧ b = y) := fun {α xs y b i} hx e => by
          by_cases lt : i < xs.length
          · rw [List.getElem?_append_left lt] at e
            exact .inl ⟨by omega, e⟩
          · rw [List.getElem?_append_right (by omega)] at e
            have := (List.getElem?_eq_some_iff.mp e).1
            simp only [List.length_singleton] at this
            have z : i - xs.length = 0 := by omega
            rw [z] at e
            exact .inr ⟨by omega, (Option.some.inj e).symm⟩
        obtain ⟨r2, lv⟩ := r.sel (j2 := j'.take st.length ++ [a]) (s2 := s'.take st.length ++ [c]) (fun i => if i < st.length then i else l) (by rw [List.length_append, List.length_append, lj, ls]; rfl) (fun i b c' h1 h2 => by
          rcases at2 lj h1 with ⟨p, p'⟩ | ⟨p, p'⟩
          · rcases at2 ls h2 with ⟨q, q'⟩ | ⟨q, q'⟩
            · rw [if_pos p]
              exact ⟨(take_at p').1, (take_at q').1⟩
            · omega
          · rcases at2 ls h2 with ⟨q, q'⟩ | ⟨q, q'⟩
            · omega
            · rw [if_neg (by omega), p', q']
              exact ⟨ha, hc⟩) (fun i i' h1 h2 h3 => by
          rw [List.length_append, lj] at h1 h2
          simp only [List.length_singleton] at h1 h2
          split at h3 <;> split at h3 <;> omega)
        refine h (.ref a) H' _ r2 ⟨a, rfl, ?_⟩ (k.sub lv fun l a e e' => ?_)
        · rw [List.getElem?_append_right (by omega), lj, Nat.sub_self]
          rfl
        · have lt : l < st.length := by rw [hn]; exact (List.getElem?_eq_some_iff.mp e).1
          rw [List.getElem?_append_left (by omega), List.getElem?_take_of_lt lt]
          exact e'
theorem slots_start {vs : List V} {ws : List W} {N : List Str} {ns : Nat} (h : WrL K mg nm H j st Z vs ws) (hN : N.length = ns) : Slots K mg nm H j st Z (L2.start N vs) (ws.map some ++ List.replicate (ns - ws.length) none) := by
  have hl := h.length
  refine ⟨?_, fun i w e => ?_⟩
  · unfold L2.start
    rw [List.length_append, List.length_append, List.length_map, List.length_map, List.length_replicate, List.length_replicate, hl, hN]
  · by_cases lt : i < ws.length
    · rw [List.getElem?_append_left (by rw [List.length_map]; exact lt), List.getElem?_map] at e
      cases q : ws[i]? with
      | none => rw [q] at e; cases e
      | some w' =>
        rw [q] at e
        cases e
        have get : ∀ {vs : List V} {ws : List W} {i : Nat}, WrL K mg nm H j st Z vs ws → ws[i]? = some w → ∃ v, vs[i]? = some v ∧ Wr K mg nm H j st Z v w := by
          intro vs ws i h
          induction h generalizing i with
          | nil => intro q; simp at q
          | cons a t ih =>
            intro q
            cases i with
            | zero => simp at q; subst q; exact ⟨_, rfl, a⟩
            | succ i =>
              obtain ⟨v, p1, p2⟩ := ih (i := i) (by simpa using q)
              exact ⟨v, by simpa using p1, p2⟩
        obtain ⟨v, p1, p2⟩ := get h q
        refine ⟨v, ?_, p2⟩
        unfold L2.start
        rw [List.getElem?_append_left (by rw [List.length_map, hl]; exact lt), List.getElem?_map, p1]
        rfl
    · rw [List.getElem?_append_right (by rw [List.length_map]; omega), List.getElem?_replicate] at e
      split at e <;> cases e
end
theorem fn_ofG {CX : CXT} {P : Program} {w : World} {K : PySem.W.Frag} {mg : Str → Option Value} {base : Heap} {k : Nat} {f : Addr} {name qual : Str} {params : Arguments} {body : List Stmt} {scope : Scope} {dV kV doc pm cdv ct oc : Value} {an od : Option Addr}
    {osl : Array (Option Value)} {N ps : List Str} {sp : Sp} (lk : K.lookup f = some ⟨oc, od, .func (PySem.W.fnOf name qual params body scope dV kV doc pm an cdv ct), osl⟩) (hcd : PySem.W.codeIn K cdv qual = true) (S : FnScope N ps scope)
    (len : ∀ vs H Q E, sp vs H Q E → vs.length = ps.length)
    (hbody : ∀ (A : Around) (outer : List Env) (s : Shared) (H : Hp) (vs : List V) (Q : VK) (E : XK), A.guards = some [] → Room k (A.deeper (envOfC qual scope s.heap.objs.size f cdv)) → sp vs H Q E →
      ∃ t, PSs (cxOf CX P w K mg base N qual scope f cdv A outer s H E) body t ∧ t { nx := fun _ H' => Q .non H', rt := Q } (L2.start N vs) H) :
    FnG P w K mg base CX (k + 1) f (PySem.W.fnOf name qual params body scope dV kV doc pm an cdv ct) ps sp := by
  refine ⟨len, fun A outer s H args us vs Q E hr hgd e0 hb r hsp => ?_⟩
  have hl := len _ _ _ _ hsp
  have KX : K.In s.heap := e0.mod.kin.keeps fun b o e => (e0.bs b o e).1
  have lim : s.heap.NoLimit := e0.mod.nolimit.keeps fun b o e => (e0.bs b o e).1
  have hkind : ∀ y ∈ ps.zip us, scope.names.lookup y.1 = some .local ∨ (scope.names.lookup y.1 = some .cell ∧ ((cellsFrom (s.heap.objs.size + 1) scope.names []).lookup y.1).isSome = true) := fun ⟨n, v⟩ hy => by
    rcases S.par n (List.of_mem_zip hy).1 with q | q
    · exact .inl q
    · exact .inr ⟨q, PySem.W.cellsFrom_some _ _ _ (.inl q)⟩
  refine codeAny_call_function hr.depth (KX _ _ lk) rfl S.co S.gen rfl (PySem.W.codeRec_of KX hcd) (hb _ _ _ _ ?_)
  refine wpAny_newFunctionEnv_cells S.kind hkind fun env he s1 x => ?_
  subst he
  refine ⟨lim.keeps x.toInCall.keep, codeAny_func ?_⟩
  obtain ⟨t, ht, hq⟩ := hbody A outer s H vs Q E hgd (hr.deeper _) hsp
  have I : Inv (cxOf CX P w K mg base N qual scope f cdv A outer s H E) [] (L2.start N vs) H s1 := inv_start S hr.hd e0 hl r x
  refine wpAny_mono (ht.run [] s1 (L2.start N vs) H _ I hq) (fun fl s' hs => ?_) fun e s' hs => hs
  have fin : ∀ {σ' : L2.St} {H' : Hp} {v : V} {u : Value}, Inv (cxOf CX P w K mg base N qual scope f cdv A outer s H E) [] σ' H' s' → RelV v u → Q v H' → CE outer P w H s Q u s' :=
    fun {σ' H' v u} J rv q => ⟨v, H', J.os, J.bare, J.base, J.hok, rv, q⟩
  cases fl with
  | ret u =>
    obtain ⟨v, σ', H', J, rv, q⟩ := hs
    exact fin J rv q
  | next =>
    obtain ⟨σ', H', J, q⟩ := hs
    exact fin (v := V.non) (u := Value.none) J rfl q
  | brk =>
    obtain ⟨_, _, _, q⟩ := hs
    exact False.elim q
  | cont =>
    obtain ⟨_, _, _, q⟩ := hs
    exact False.elim q
structure FnD (K : PySem.W.Frag) (mg : Str → Option Value) (k : Ck) (f : Nat) (N : List Str) (params : Arguments) (body : List Stmt) (scope : Scope) : Prop where
  ex : ∃ (a : Addr) (qual : Str) (kV doc pm cdv ct oc : Value) (an od : Option Addr) (osl : Array (Option Value)),
    mg (k.nmF f) = some (.ref a) ∧ K.lookup a = some ⟨oc, od, .func (PySem.W.fnOf (k.nmF f) qual params body scope .none kV doc pm an cdv ct), osl⟩ ∧ PySem.W.codeIn K cdv qual = true ∧ PySem.W.keepIn K (.ref a) = true
  par : plainP params = true
  ps : parOf params = k.psF f
  sc : FnScope N (k.psF f) scope
structure Tab (K : PySem.W.Frag) (mg : Str → Option Value) (k0 : Ck) (tab : Nat → Option FD) : Prop where
  fns : ∀ f, k0.has f = true → ∃ N params body scope fd, FnD K mg k0 f N params body scope ∧ tab f = some fd ∧ fd.np = (k0.psF f).length ∧ fd.ns = N.length ∧ chkSs { k0 with N := N, sc := scope, top := true } fd.body body = true
  no : ∀ f, k0.has f = false → mg (k0.nmF f) = none ∧ tab f = none
  nb : ∀ y ∈ bNames, mg y = none
  gs : ∀ p ∈ k0.gs, ∃ u v, mg p.1 = some u ∧ RelV v u ∧ ∀ H L, (∀ a, L a → ∃ o, H a = some o) → Dr K H L v p.2
theorem run_len {tab : Nat → Option FD} {f : Nat} {fd : FD} {ws : List W} {st : Sto} (e : tab f = some fd) (h : ws.length ≠ fd.np) : ∀ n, run tab n f ws st = .bad
  | 0 => rfl
  | n + 1 => by
    unfold run
    rw [e]
    exact if_neg fun z => h z.1
theorem defs_all {K : PySem.W.Frag} {mg : Str → Option Value} {k0 : Ck} {tab : Nat → Option FD} {P : Program} {w : World} {base : Heap} {CX : CXT} {cl : Nat → Value × Str} (t : Tab K mg k0 tab)
    (hx : ∀ (N : List Str) (qual : Str) (scope : Scope) (f : Addr) (cd : Value) (A : Around) (outer : List Env) (s : Shared) (H : Hp) (E : XK), Passes CX (cxOf CX P w K mg base N qual scope f cd A outer s H E) E) (hb : ∀ X, Passes CX X C8.E0) :
    ∀ n, Defs P w K mg base CX n (k0.sg cl) (run tab n) k0.has := by
  intro n
  have nol : ∀ f ws st n, ws.length ≠ (k0.psF f).length → run tab n f ws st = .bad := fun f ws st n h => by
    cases hf : k0.has f with
    | true =>
      obtain ⟨N, params, body, scope, fd, _, e, l, _⟩ := t.fns f hf
      exact run_len e (by rw [l]; exact h) n
    | false =>
      cases n with
      | zero => rfl
      | succ n => unfold run; rw [(t.no f hf).2]
  induction n with
  | zero =>
    refine ⟨fun f h => (t.no f h).1, fun f ws st h => nol f ws st 0 h, fun f hf => ?_⟩
    obtain ⟨N, params, body, scope, fd, D, e, l1, l2, c⟩ := t.fns f hf
    obtain ⟨a, qual, kV, doc, pm, cdv, ct, oc, an, od, osl, h1, h2, h3, h4⟩ := D.ex
    refine ⟨a, PySem.W.fnOf (k0.nmF f) qual params body scope .none kV doc pm an cdv ct, h1, ⟨fun vs H Q E h => ?_, fun A outer s H args us vs Q E hr hg e0 hbd r h => ?_⟩, h4, rfl, D.par, D.ps, _, _, _, h2⟩
    · obtain ⟨ws, st, j, Z, _, _, _, z⟩ := h
      exact z.elim
    · obtain ⟨ws, st, j, Z, _, _, _, z⟩ := h
      exact z.elim
  | succ n ih =>
    refine ⟨fun f h => (t.no f h).1, fun f ws st h => nol f ws st (n + 1) h, fun f hf => ?_⟩
    obtain ⟨N, params, body, scope, fd, D, e, l1, l2, c⟩ := t.fns f hf
    obtain ⟨a, qual, kV, doc, pm, cdv, ct, oc, an, od, osl, h1, h2, h3, h4⟩ := D.ex
    refine ⟨a, _, h1, fn_ofG h2 h3 D.sc (fun vs H Q E h => ?_) (fun A outer s H vs Q E hgd hr h => ?_), h4, rfl, D.par, D.ps, _, _, _, h2⟩
    · obtain ⟨ws, st, j, Z, _, hw, hl, _⟩ := h
      rw [hw.length, hl]
    · obtain ⟨ws, st, j, Z, rel, hw, hl, q⟩ := h
      have g : Good { k0 with N := N, sc := scope, top := true } cl CX n (run tab n) (cxOf CX P w K mg base N qual scope a cdv A outer s H E) E :=
        ⟨⟨rfl, hgd, by have := hr.un; show A.units + 3 + 128 < _; have : A.units + 3 + 16 * n + 200 < cLine := hr.un; omega, D.sc.nd⟩, rfl, rfl, t.nb, t.gs, ih, hr, hx _ _ _ _ _ _ _ _ _ _, hb, fun _ _ => rfl⟩
      refine ⟨_, sndSs fd.body g D.sc.kind (passes_of rfl) body c, ws.map some ++ List.replicate (fd.ns - ws.length) none, st, j, Z, rel, slots_start hw l2.symm, ?_⟩
      show RWx (denSs (run tab n) fd.body (ws.map some ++ List.replicate (fd.ns - ws.length) none) st) (OkS K mg k0.nmF H j st Z { nx := fun _ H' => Q .non H', rt := Q }) (OkX K cl H j st Z E)
      have hl : ws.length = (k0.psF f).length := hl
      have hp : ws.length = fd.np ∧ fd.np ≤ fd.ns := by
        refine ⟨by rw [l1]; exact hl, ?_⟩
        rw [l1, l2]
        have := congrArg List.length D.sc.pre
        rw [List.length_take] at this
        omega
      unfold run at q
      rw [e] at q
      dsimp only at q
      rw [if_pos hp] at q
      unfold bodyM at q
      rw [← hp.1] at q
      change RWx (gcW st.length (M.bind (denSs (run tab n) fd.body (ws.map some ++ List.replicate (fd.ns - ws.length) none)) (fun p => match p.1 with
        | .rt w => M.pure w
        | .nx => M.pure (.d .none)) st)) _ _ at q
      unfold M.bind at q
      cases hd : denSs (run tab n) fd.body (ws.map some ++ List.replicate (fd.ns - ws.length) none) st with
      | bad => rw [hd] at q; exact q.elim
      | exc c d s' =>
        rw [hd] at q
        intro da v H' j' r x dr k
        obtain ⟨r2, lv⟩ := r.take st.length
        exact q da v H' (j'.take st.length) r2 x (dr.mono fun b z => z.imp (lv b) id) (k.sub lv fun l a e e' => by
          rw [List.getElem?_take_of_lt (by rw [← rel.len]; exact (List.getElem?_eq_some_iff.mp e).1)]
          exact e')
      | ok p s' =>
        rw [hd] at q
        obtain ⟨fl, ρ'⟩ := p
        cases fl with
        | nx => exact fun σ' H' j' r sl k => gc_out (w := .d .none) (v := .non) rel.len.symm q r .non k
        | rt w => exact fun v H' j' r wr k => gc_out (w := w) rel.len.symm q r wr k
end Gd
namespace Gd
open PySem PySem.Spec PyProof.Rows L2
theorem callG {P : Program} {w : World} {K : PySem.W.Frag} {mg mbl : Str → Option Value} {CX : CXT} {n : Nat} {f0 a0 : Addr} {fd : FuncData} {x : Str} {sp : Sp} {s0 : Shared} {us : List Value} {is : List Int}
    (kin : K.In s0.heap) (gn : s0.heap.Ns mainGlobals mg) (bn : s0.heap.Ns builtinsNs mbl) (bo : ∀ x : Str, x ≠ "__name__" → mbl x = bootBuiltins x) (nl : s0.heap.NoLimit) (ng : s0.gens = #[])
    (ho : s0.heap.get? a0 = some { cls := .type "list", data := .seq us.toArray }) (ia : IntsAre us is) (il : is.length ≤ sizeLine) (rm : Room n callerA)
    (F : ∀ b : Heap, K.In b → b.Ns mainGlobals mg → FnG P w K mg b CX n f0 fd [x] sp) (bind : ∀ (s : Shared) (u : Value), BindsTo s fd ⟨[u], []⟩ [(x, u)])
    (hsp : ∀ H : Hp, ((H a0 = some (.frz { cls := .type "list", data := .seq us.toArray } (.lst (is.map V.int)))) ∨ (∀ b, H b = none) ∧ KLst K a0 (is.map V.int)) → sp [.ref a0] H (fun v _ => v = .bl true) fun _ _ _ => False)
    (noX : ∀ H e s', CX [] H s0 (fun _ _ _ => False) e s' → False) :
    codeAny (model P w) callerA (.call (.ref f0) ⟨[.ref a0], []⟩) (fun r s' => r = .ok (.ret (.bool true)) ∧ OldK s0.heap s'.heap ∧ s'.os = s0.os ∧ AllBare s'.gens) s0 := by
  have vr := vals_ints ia
  have lu := ia.length
  -- tracked is the script, or nothing
  have go : ∀ H : Hp, (∀ b, H b = none ∨ ∃ o ys, H b = some (.frz o (.lst ys))) → (∀ b, H b ≠ none → b = a0) → (H a0 ≠ none → K.lookup a0 = none) → HOk P w H s0.heap → sp [.ref a0] H (fun v _ => v = .bl true) (fun _ _ _ => False) →
      codeAny (model P w) callerA (.call (.ref f0) ⟨[.ref a0], []⟩) (fun r s' => r = .ok (.ret (.bool true)) ∧ OldK s0.heap s'.heap ∧ s'.os = s0.os ∧ AllBare s'.gens) s0 := by
    intro H only sole off hk hq
    have dn : ∀ {b : Addr} {o : Obj} {es : Array DictEntry} {ep : Nat}, s0.heap.get? b = some o → o.data = .dict es ep → H b = none := fun {b o es ep} e d => by
      cases q : H b with
      | none => rfl
      | some u =>
        have z : b = a0 := sole b (by rw [q]; simp)
        rw [z, ho] at e
        cases e
        have d : Data.seq us.toArray _ = Data.dict es ep := d
        cases d
    have ns2 : ∀ {b : Addr} {m : Str → Option Value}, s0.heap.Ns b m → (hidT s0.heap H).Ns b m := fun {b m} ⟨o, es, ep, e, d, r⟩ => ⟨o, es, ep, hidT_get e (dn e d), d, r⟩
    have kin2 : K.In (hidT s0.heap H) := fun b o e => hidT_get (kin b o e) (by
      cases q : H b with
      | none => rfl
      | some u =>
        have z : b = a0 := sole b (by rw [q]; simp)
        rw [z] at e q
        rw [off (by rw [q]; simp)] at e
        cases e)
    have md : Mod K mg (hidT s0.heap H) := ⟨kin2, ns2 gn, ⟨mbl, ns2 bn, bo⟩, nl.elim fun mc h => ⟨mc, ns2 h.1, h.2⟩⟩
    have ev : Env0 P w K mg (hidT s0.heap H) callerA [] s0 H := ⟨rfl, md, fun b o e => of_hidT e, Nat.le_of_eq (hidT_size _ _), trivial, fun b z => (nomatch (show b ∈ ([] : List Addr) from z)), hk, .of_eq ng⟩
    have run := (F _ kin2 (ns2 gn)).run callerA [] s0 H ⟨[.ref a0], []⟩ [.ref a0] [.ref a0] _ _ rm rfl ev (bind s0 (.ref a0)) (.cons rfl .nil) hq
    refine codeAny_mono run fun r s' h => ?_
    match r, h with
    | .error e, h => exact (noX H e s' h).elim
    | .ok .next, h => exact False.elim h
    | .ok .brk, h => exact False.elim h
    | .ok .cont, h => exact False.elim h
    | .ok (.ret u), h =>
      obtain ⟨v, H2, hos, hbr, un, hk2, rv, qv⟩ := h
      have qv : v = .bl true := qv
      rw [qv] at rv
      obtain rfl : u = Value.bool true := rv
      refine ⟨rfl, OldK.of_keep fun b o e => ?_, hos, hbr⟩
      rcases only b with z | ⟨ob, ys, z⟩
      · exact un.keep b o e z (fun q => nomatch (show b ∈ ([] : List Addr) from q)) (by simp)
      · obtain ⟨e1, _⟩ := hk b _ z
        obtain ⟨e2, _⟩ := hk2 b _ (un.frzs b ob _ z)
        rw [e] at e1
        cases e1
        exact e2
  cases hl : K.lookup a0 with
  | some o =>
    have e := kin a0 o hl
    rw [ho] at e
    cases e
    refine go (fun _ => none) (fun _ => .inl rfl) (fun b z => absurd rfl z) (fun z => absurd rfl z) (fun b u z => nomatch (show (none : Option HO) = some u from z)) (hsp _ (.inr ⟨fun _ => rfl, _, us.toArray, _, hl, rfl, rfl, rfl, by rw [List.size_toArray, lu]; exact il, by simpa using vr⟩))
  | none =>
    have at0 : ∀ {b : Addr} {u : HO}, (if b = a0 then some (HO.frz { cls := .type "list", data := .seq us.toArray } (.lst (is.map V.int))) else none) = some u → b = a0 ∧ u = .frz { cls := .type "list", data := .seq us.toArray } (.lst (is.map V.int)) := fun {b u} z => by
      split at z
      · exact ⟨by assumption, (Option.some.inj z).symm⟩
      · cases z
    refine go (fun b => if b = a0 then some (.frz { cls := .type "list", data := .seq us.toArray } (.lst (is.map V.int))) else none) (fun b => ?_) (fun b z => ?_) (fun _ => hl) (fun b u z => ?_) (hsp _ (.inl (if_pos rfl)))
    · by_cases hb : b = a0
      · exact .inr ⟨_, _, if_pos hb⟩
      · exact .inl (if_neg hb)
    · by_cases hb : b = a0
      · exact hb
      · exact absurd (if_neg hb) z
    · obtain ⟨rfl, rfl⟩ := at0 z
      exact ⟨ho, by rw [List.length_map]; exact il, us, _, vr, ho⟩
theorem walkG {l : PySem.W.OpenLaw} {m n : Nat} {q : Program} {loose : List Str} {XP : (Str → Option Value) → Heap → Prop} {YP : World → Heap → Prop} {d : DefRec} {tab : Nat → Option FD} {k0 : Ck} {f0 : Nat} {x : Str}
    (hn : l.most = some m) (hm : m ≤ sizeLine) (hdf : d.params.defaults = []) (rm : Room n callerA) (hf : k0.has f0 = true) (hnm : d.name = k0.nmF f0) (hps : k0.psF f0 = [x])
    (tb : ∀ (w : World) (mg : Str → Option Value) (h : Heap), YP w h → h.Ns mainGlobals mg → ∃ K : PySem.W.Frag, K.In h ∧ Tab K mg k0 tab)
    (law : ∀ is : List Int, is.length ≤ m → ∃ s, run tab n f0 [.s is] [] = .ok (.d (.bool true)) s) :
    PySem.W.WalkO q loose XP YP l.row.toRowW d [] (fun f vs => PySem.call f vs) := by
  refine Att.attach_call hn hdf fun w s₀ s1 mg mb fa o pm cd doc a us is G Y ho hd hcd hmg hobj hints hlen hg => ?_
  obtain ⟨K, kin, t⟩ := tb w mg _ Y G.T.g
  have D : ∀ base : Heap, Defs l.prog w K mg base C8.CX0 n (k0.sg fun _ => (.none, "")) (run tab n) k0.has := fun base => defs_all t (fun _ _ _ _ _ _ _ _ _ _ => C8.pass0) (fun _ => C8.pass0) n
  obtain ⟨a1, fd, h1, _, h3, h4, h5, h6, oc, od, osl, hlk⟩ := (D s1.heap).at_ f0 hf
  have h1 : mg (k0.nmF f0) = some (.ref a1) := h1
  rw [hnm] at hmg
  obtain rfl : fa = a1 := by
    have e := hmg.symm.trans h1
    cases e
    rfl
  have h6 : parOf fd.params = [x] := by rw [h6]; exact hps
  have F : ∀ base : Heap, FnG l.prog w K mg base C8.CX0 n fa fd [x] (spF K mg (k0.sg fun _ => (.none, "")) (run tab n) f0) := fun base => by
    obtain ⟨a2, fd2, e1, e2, e3, e4, e5, e6, _, _, _, e7⟩ := (D base).at_ f0 hf
    have e1 : mg (k0.nmF f0) = some (.ref a2) := e1
    rw [h1] at e1
    cases e1
    have z : (k0.sg fun _ => ((.none : Value), "")).ps f0 = [x] := hps
    rw [z] at e2
    rw [hlk] at e7
    cases e7
    exact e2
  refine callG kin G.T.g G.T.b G.T.builtins G.T.nolimit hg hobj hints (Nat.le_trans hlen hm) rm (fun base _ _ => F base) (fun s u => ?_) (fun H hH => ?_) (fun _ _ _ z => z)
  · have b := binds_gen (us := [u]) (ws := []) (ks := []) h5 h4 (by rw [h6]; exact binds_all (List.nodup_cons.mpr ⟨by simp, List.nodup_nil⟩)) rfl s
    rw [h6, show placesOf [x] [u].length [] = [0] from places_all (ns := [x]) (List.nodup_cons.mpr ⟨by simp, List.nodup_nil⟩)] at b
    exact b
  · obtain ⟨s2, e⟩ := law is hlen
    refine ⟨[.s is], [], [], fun _ => False, ⟨rfl, fun i i' a c c' h => (nomatch h), fun i a c h => (nomatch h), fun a z => z.elim⟩, .cons ⟨a, rfl, ?_⟩ .nil, by show 1 = (k0.psF f0).length; rw [hps]; rfl, ?_⟩
    · rcases hH with z | ⟨_, z⟩
      · exact .inl ⟨_, z, fun q => q.elim (fun ⟨i, c, h, _⟩ => nomatch h) id⟩
      · exact .inr z
    · rw [e]
      intro v H' j' _ wr _
      cases wr
      rfl
end Gd
namespace Gd
open PySem PySem.Spec PyProof.Rows L2
mutual
def vaB (K : PySem.W.Frag) : Nat → Value → PyData → Bool
  | _, .int i _, .int j => decide (i = j)
  | _, .str x _, .str y => decide (x = y)
  | _, .bool a, .bool b => a == b
  | _, .none, .none => true
  | n + 1, .ref a, .tuple ds => match K.lookup a with
    | some ⟨.type c, none, .seq its _, _⟩ => decide (c = "tuple") && decide (its.size ≤ sizeLine) && vaBL K n its.toList ds
    | _ => false
  | _, _, _ => false
def vaBL (K : PySem.W.Frag) : Nat → List Value → List PyData → Bool
  | _, [], [] => true
  | n + 1, u :: us, d :: ds => vaB K n u d && vaBL K n us ds
  | _, _, _ => false
end
mutual
theorem vaB_ok {K : PySem.W.Frag} : ∀ (n : Nat) (u : Value) (d : PyData), vaB K n u d = true → ∃ v, RelV v u ∧ ∀ H L, Dr K H L v d
  | n, u, d, h => by
    cases u with
    | int i t =>
      cases d with
      | int j =>
        have e : i = j := by cases n <;> exact of_decide_eq_true h
        exact ⟨.int j, ⟨t, by rw [e]⟩, fun H L => .int j⟩
      | _ => cases n <;> cases h
    | str x t =>
      cases d with
      | str y =>
        have e : x = y := by cases n <;> exact of_decide_eq_true h
        exact ⟨.str y, ⟨t, by rw [e]⟩, fun H L => .str y⟩
      | _ => cases n <;> cases h
    | bool b =>
      cases d with
      | bool c =>
        have e : b = c := by cases n <;> exact eq_of_beq h
        exact ⟨.bl c, by rw [e]; rfl, fun H L => .bl c⟩
      | _ => cases n <;> cases h
    | none =>
      cases d with
      | none => exact ⟨.non, rfl, fun H L => .non⟩
      | _ => cases n <;> cases h
    | ref a =>
      cases d with
      | tuple ds =>
        cases n with
        | zero => cases h
        | succ n =>
          simp only [vaB] at h
          split at h
          · rename_i c its m sl hk
            simp only [Bool.and_eq_true, decide_eq_true_eq] at h
            obtain ⟨vs, hv, hd⟩ := vaBL_ok n its.toList ds h.2
            exact ⟨.ref a, rfl, fun H L => .tup (.inr ⟨_, its, m, hk, by rw [h.1.1], rfl, rfl, h.1.2, hv⟩) (hd H L)⟩
          · cases h
      | _ => cases n <;> cases h
    | _ => cases d <;> cases n <;> cases h
theorem vaBL_ok {K : PySem.W.Frag} : ∀ (n : Nat) (us : List Value) (ds : List PyData), vaBL K n us ds = true → ∃ vs, Vals vs us ∧ ∀ H L, DrL K H L vs ds
  | n, us, ds, h => by
    cases us with
    | nil =>
      cases ds with
      | nil => exact ⟨[], .nil, fun H L => .nil⟩
      | cons _ _ => cases n <;> cases h
    | cons u us =>
      cases ds with
      | nil => cases n <;> cases h
      | cons d ds =>
        cases n with
        | zero => cases h
        | succ n =>
          simp only [vaBL, Bool.and_eq_true] at h
          obtain ⟨v, r, dv⟩ := vaB_ok n u d h.1
          obtain ⟨vs, rs, ds'⟩ := vaBL_ok n us ds h.2
          exact ⟨v :: vs, .cons r rs, fun H L => .cons (dv H L) (ds' H L)⟩
end
def gsB (gs : List (Str × PyData)) (K : PySem.W.Frag) : Bool := gs.all fun p => match PySem.W.nsIn K mainGlobals p.1 with
  | some (some u) => vaB K 300 u p.2
  | _ => false
def mkFa (nm : List Str) (nb : List Str) : List He.Fa := nm.map .glo ++ nb.map .free
def fnB (k0 : Ck) (f : Nat) (d : He.DefD) (q : FD × List Str) : Bool :=
  decide (d.at_ = (k0.nmF f, none)) && decide (d.name = k0.nmF f) && d.dfl.isEmpty && d.kwd.isEmpty && plainP d.params && decide (parOf d.params = k0.psF f) && C8.scC q.2 (k0.psF f) d.scope &&
  decide (q.1.np = (k0.psF f).length) && decide (q.1.ns = q.2.length) && chkSs { k0 with N := q.2, sc := d.scope, top := true } q.1.body d.body
def tabF (fs : List (FD × List Str)) (f : Nat) : Option FD := (fs[f]?).map (·.1)
theorem tab_of {k0 : Ck} {fn : List He.DefD} {fs : List (FD × List Str)} {K : PySem.W.Frag} {h : Heap} {mg : Str → Option Value} (X : K.In h) (G : h.Ns mainGlobals mg) (c : He.SaysD (mkFa k0.nm (("" : Str) :: bNames)) fn K) (cg : gsB k0.gs K = true)
    (l1 : fn.length = k0.nm.length) (l2 : fs.length = k0.nm.length) (ok : ∀ f d q, fn[f]? = some d → fs[f]? = some q → fnB k0 f d q = true) : Tab K mg k0 (tabF fs) := by
  have free : ∀ y, y ∈ ("" : Str) :: bNames → mg y = none := fun y hy => He.free_ok X G (c.facts (f := .free y) (List.mem_append_right _ (List.mem_map.mpr ⟨y, hy, rfl⟩)))
  refine ⟨fun f hf => ?_, fun f hf => ?_, fun y hy => free y (List.mem_cons_of_mem _ hy), fun p hp => ?_⟩
  · have lt : f < k0.nm.length := of_decide_eq_true hf
    have e1 : fn[f]? = some (fn[f]'(by omega)) := List.getElem?_eq_getElem _
    have e2 : fs[f]? = some (fs[f]'(by omega)) := List.getElem?_eq_getElem _
    generalize fn[f]'(by omega) = d at e1
    generalize fs[f]'(by omega) = q at e2
    have b := ok f d q e1 e2
    unfold fnB at b
    simp only [Bool.and_eq_true, decide_eq_true_eq] at b
    obtain ⟨⟨⟨⟨⟨⟨⟨⟨⟨b1, b2⟩, b3⟩, b4⟩, b5⟩, b6⟩, b7⟩, b8⟩, b9⟩, b10⟩ := b
    obtain ⟨fd, F⟩ := c.defs (List.mem_of_getElem? e1)
    have kp := F.kp
    obtain ⟨oc, od, dV, kV, doc, pm, an, cdv, ct, osl, rfl, lk, hcd, hdv, _⟩ := F.ex
    have hm : k0.nmF f ∈ k0.nm := by
      unfold Ck.nmF
      rw [List.getD_eq_getElem?_getD, List.getElem?_eq_getElem lt]
      exact List.getElem_mem lt
    have mgf : mg (k0.nmF f) = some (.ref (He.ga K (k0.nmF f))) := He.glo_ok X G (c.facts (f := .glo (k0.nmF f)) (List.mem_append_left _ (List.mem_map.mpr ⟨_, hm, rfl⟩)))
    rw [b1] at lk kp
    have dn : dV = .none := by
      have z : d.dvs K = [] := by unfold He.DefD.dvs; rw [List.isEmpty_iff.mp b3]; rfl
      rcases hdv with ⟨_, e⟩ | ⟨n, _⟩
      · exact e
      · exact absurd z n
    subst dn
    rw [b2] at lk
    exact ⟨q.2, d.params, d.body, d.scope, q.1, ⟨⟨_, _, _, _, _, _, _, _, _, _, _, mgf, lk, hcd, kp⟩, b5, b6, C8.fnScope_by b7⟩, by unfold tabF; rw [e2]; rfl, b8, b9, b10⟩
  · have ge : k0.nm.length ≤ f := Nat.le_of_not_lt fun z => by
      have : k0.has f = true := decide_eq_true z
      rw [hf] at this
      cases this
    refine ⟨?_, by unfold tabF; rw [List.getElem?_eq_none (by omega)]; rfl⟩
    have : k0.nmF f = "" := by
      unfold Ck.nmF
      rw [List.getD_eq_getElem?_getD, List.getElem?_eq_none ge]
      rfl
    rw [this]
    exact free _ List.mem_cons_self
  · have z := List.all_eq_true.mp cg p hp
    split at z
    · rename_i u hu
      obtain ⟨v, r, d⟩ := vaB_ok _ _ _ z
      exact ⟨u, v, PySem.W.mg_of X G hu, r, fun H L _ => d H L⟩
    · cases z
end Gd
namespace Gd
open PySem PySem.Spec L2
def go {α : Type} (m : M α) (s : Sto) : Res α := m s
def bindR {α β : Type} (r : Res α) (k : α → Sto → Res β) : Res β := match r with
  | .ok a s => k a s
  | .exc c d s => .exc c d s
  | .bad => .bad
section
variable {α β γ : Type}
theorem go_bind (m : M α) (k : α → M β) (s : Sto) : go (m >>= k) s = bindR (go m s) fun a s' => go (k a) s' := by
  show M.bind m k s = _
  unfold M.bind bindR go
  cases m s <;> rfl
theorem go_pure (a : α) (s : Sto) : go (M.pure a : M α) s = .ok a s := rfl
theorem go_bad (s : Sto) : go (M.bad : M α) s = .bad := rfl
theorem bindR_ok (a : α) (s : Sto) (k : α → Sto → Res β) : bindR (.ok a s) k = k a s := eq_of_heq (HEq.refl _)
theorem bindR_bad (k : α → Sto → Res β) : bindR (.bad : Res α) k = .bad := rfl
theorem bindR_bindR (r : Res α) (k : α → Sto → Res β) (l : β → Sto → Res γ) : bindR (bindR r k) l = bindR r fun a s => bindR (k a s) l := by
  cases r <;> rfl
theorem bindR_ite (c : Prop) [Decidable c] (a b : Res α) (k : α → Sto → Res β) : bindR (if c then a else b) k = if c then bindR a k else bindR b k := by split <;> rfl
theorem go_ite (c : Prop) [Decidable c] (a b : M α) (s : Sto) : go (if c then a else b) s = if c then go a s else go b s := by split <;> rfl
theorem go_ofO (o : Option α) (s : Sto) : go (ofO o) s = match o with
  | some a => .ok a s
  | none => .bad := by cases o <;> rfl
theorem go_ofS (a : α) (s : Sto) : go (ofO (some a)) s = .ok a s := rfl
theorem go_rdD (x : PyData) (s : Sto) : go (rd (.d x)) s = .ok x s := rfl
theorem go_fzD (x : PyData) (s : Sto) : go (fzW (.d x)) s = .ok x s := rfl
theorem go_asB (b : Bool) (s : Sto) : go (asB (.d (.bool b))) s = .ok b s := rfl
theorem go_asI (b : Int) (s : Sto) : go (asI (.d (.int b))) s = .ok b s := rfl
theorem go_slot (w : W) (r : Rho) (s : Sto) : go (slot (some w :: r) 0) s = .ok w s := rfl
theorem slot_s (w : Option W) (r : Rho) (i : Nat) : slot (w :: r) (i + 1) = slot r i := rfl
theorem go_slotF (f : Nat) (r : Rho) (s : Sto) : go (slotF (some (.f f) :: r) 0) s = .ok f s := rfl
theorem slotF_s (w : Option W) (r : Rho) (i : Nat) : slotF (w :: r) (i + 1) = slotF r i := rfl
def noR (r : Res α) : Res α := match r with
  | .ok a s => .ok a s
  | .exc _ _ _ => .bad
  | .bad => .bad
theorem go_noX (m : M α) (s : Sto) : go (noX m) s = noR (go m s) := rfl
theorem noR_ok (a : α) (s : Sto) : noR (.ok a s) = .ok a s := rfl
theorem noR_ite (c : Prop) [Decidable c] (a b : Res α) : noR (if c then a else b) = if c then noR a else noR b := by split <;> rfl
theorem rw_noR {r : Res α} {P : α → Sto → Prop} (h : RWp r P) : RWp (noR r) P := by
  cases r with
  | ok a s => exact h
  | exc c d s => exact h.elim
  | bad => exact h.elim
theorem go_opD (f : PyData → PyData → Option PyData) (x y : PyData) (s : Sto) : go (opD f (.d x) (.d y)) s = match f x y with
  | some z => .ok (.d z) s
  | none => .bad := by
  unfold opD
  simp only [go_bind, go_rdD, bindR_ok, go_ofO]
  cases f x y <;> rfl
theorem go_cmpB (o : COp) (x y : PyData) (s : Sto) : go (cmpB o (.d x) (.d y)) s = match cmpD o x y with
  | some z => .ok z s
  | none => .bad := by
  unfold cmpB
  simp only [go_bind, go_rdD, bindR_ok, go_ofO]
  cases cmpD o x y <;> rfl
theorem go_cmp (o : COp) (x y : PyData) (s : Sto) : go (cmpM o (.d x) (.d y)) s = match cmpD o x y with
  | some z => .ok (.d (.bool z)) s
  | none => .bad := by
  unfold cmpM
  simp only [go_bind, go_cmpB]
  cases cmpD o x y <;> rfl
theorem go_isi (t : Ty) (x : PyData) (s : Sto) : go (isiM t (.d x)) s = .ok (.d (.bool (isiD t x))) s := rfl
theorem go_neg (i : Int) (s : Sto) : go (negM (.d (.int i))) s = .ok (.d (.int (-i))) s := rfl
theorem go_rdL_nil (s : Sto) : go (rdL []) s = .ok [] s := rfl
theorem go_rdL_cons (x : PyData) (r : List W) (s : Sto) : go (rdL (.d x :: r)) s = bindR (go (rdL r) s) fun xs s' => .ok (x :: xs) s' := by
  show go (rd (.d x) >>= fun x => rdL r >>= fun xs => M.pure (x :: xs)) s = _
  simp only [go_bind, go_rdD, bindR_ok, go_pure]
theorem go_fzL_nil (s : Sto) : go (fzL []) s = .ok [] s := rfl
theorem go_fzL_cons (x : PyData) (r : List W) (s : Sto) : go (fzL (.d x :: r)) s = bindR (go (fzL r) s) fun xs s' => .ok (x :: xs) s' := by
  show go (fzW (.d x) >>= fun x => fzL r >>= fun xs => M.pure (x :: xs)) s = _
  simp only [go_bind, go_fzD, bindR_ok, go_pure]
theorem go_bi1 (b : Bi) (x : PyData) (s : Sto) : go (biM b [.d x]) s = match biD b [x] with
  | some z => .ok (.d z) s
  | none => .bad := by
  unfold biM
  simp only [go_bind, go_rdL_cons, go_rdL_nil, bindR_ok, go_ofO]
  cases biD b [x] <;> rfl
theorem go_bi2 (b : Bi) (x y : PyData) (s : Sto) : go (biM b [.d x, .d y]) s = match biD b [x, y] with
  | some z => .ok (.d z) s
  | none => .bad := by
  unfold biM
  simp only [go_bind, go_rdL_cons, go_rdL_nil, bindR_ok, go_ofO]
  cases biD b [x, y] <;> rfl
theorem go_slc (lo hi : Option Int) (x : PyData) (s : Sto) : go (slcM lo hi (.d x)) s = match slcD lo hi x with
  | some z => .ok (.d z) s
  | none => .bad := by
  unfold slcM
  simp only [go_bind, go_rdD, bindR_ok, go_ofO]
  cases slcD lo hi x <;> rfl
theorem go_tup (ws : List W) (s : Sto) : go (tupM ws) s = bindR (go (fzL ws) s) fun xs s' => if xs.length ≤ SZ then .ok (.d (.tuple xs)) s' else .bad := by
  unfold tupM
  simp only [go_bind, go_ite, go_pure, go_bad]
theorem go_disp (ws : List W) (s : Sto) : go (dispN ws) s = bindR (go (fzL ws) s) fun xs s' => if xs.length ≤ SZ then .ok xs s' else .bad := by
  unfold dispN
  simp only [go_bind, go_ite, go_pure, go_bad]
theorem go_fz (x : PyData) (s : Sto) : go (fzM (.d x)) s = .ok (.d x) s := rfl
theorem go_seqL (xs : List PyData) (s : Sto) : go (seqM (.d (.list xs))) s = .ok xs s := rfl
theorem go_seqT (xs : List PyData) (s : Sto) : go (seqM (.d (.tuple xs))) s = .ok xs s := rfl
theorem go_enumL (xs : List PyData) (s : Sto) : go (enumM (.d (.list xs))) s = .ok (enumD xs) s := rfl
theorem go_enumT (xs : List PyData) (s : Sto) : go (enumM (.d (.tuple xs))) s = .ok (enumD xs) s := rfl
theorem go_zipTT (xs ys : List PyData) (s : Sto) : go (zipM (.d (.tuple xs)) (.d (.tuple ys))) s = .ok (pairsD xs ys) s := rfl
theorem go_zipLL (xs ys : List PyData) (s : Sto) : go (zipM (.d (.list xs)) (.d (.list ys))) s = .ok (pairsD xs ys) s := rfl
theorem go_zipTL (xs ys : List PyData) (s : Sto) : go (zipM (.d (.tuple xs)) (.d (.list ys))) s = .ok (pairsD xs ys) s := rfl
theorem go_zipLT (xs ys : List PyData) (s : Sto) : go (zipM (.d (.list xs)) (.d (.tuple ys))) s = .ok (pairsD xs ys) s := rfl
theorem go_rng1 (i : Int) (s : Sto) (h : -(2 ^ 62) ≤ i ∧ i < 2 ^ 62) : go (rng1M (.d (.int i))) s = .ok (rangeD 0 i) s := by
  show go (if -(2 ^ 62) ≤ i ∧ i < 2 ^ 62 then M.pure (rangeD 0 i) else M.bad) s = _
  rw [if_pos h]
  rfl
theorem go_new (c : Bx) (s : Sto) : go (newCell c) s = .ok (.r s.length) (s ++ [c]) := rfl
theorem go_sciS (is : List Int) (i : Int) (s : Sto) : go (sciM (.s is) (.d (.int i))) s = match (ixD is.length i).bind fun k => is[k]? with
  | some z => .ok (.d (.int z)) s
  | none => .bad := by
  show go (ofO ((ixD is.length i).bind fun k => is[k]?) >>= fun z => (M.pure (W.d (.int z)) : M W)) s = _
  simp only [go_bind, go_ofO]
  cases (ixD is.length i).bind fun k => is[k]? <;> rfl
theorem go_sclS (is : List Int) (s : Sto) : go (sclM (.s is)) s = .ok (.d (.int is.length)) s := rfl
theorem go_scsS (is : List Int) (h : Option Int) (s : Sto) : go (scsN h (.s is)) s = .ok ((cutD is none h).map .int) s := rfl
theorem go_run {tab : Nat → Option FD} {f : Nat} (fd : FD) (h : tab f = some fd) (n : Nat) (ws : List W) (st : Sto) (hl : ws.length = fd.np ∧ fd.np ≤ fd.ns) : go (run tab (n + 1) f ws) st = gcW st.length (go (bodyM (run tab n) fd ws) st) := by
  show (match tab f with
    | none => Res.bad
    | some fd => if ws.length = fd.np ∧ fd.np ≤ fd.ns then gcW st.length (bodyM (run tab n) fd ws st) else Res.bad) = _
  rw [h]
  exact if_pos hl
theorem go_body (rn : Nat → List W → M W) (fd : FD) (ws : List W) (st : Sto) : go (bodyM rn fd ws) st = bindR (go (denSs rn fd.body (ws.map some ++ List.replicate (fd.ns - fd.np) none)) st) fun p s => match p.1 with
  | .rt w => .ok w s
  | .nx => .ok (.d .none) s := by
  unfold bodyM
  rw [go_bind]
  congr 1
  funext p s
  obtain ⟨fl, ρ⟩ := p
  cases fl <;> rfl
theorem gc_d (n : Nat) (d : PyData) (s : Sto) : gcW n (.ok (.d d) s) = .ok (.d d) (s.take n) := rfl
theorem gc_ite (n : Nat) (c : Prop) [Decidable c] (a b : Res W) : gcW n (if c then a else b) = if c then gcW n a else gcW n b := by split <;> rfl
theorem den_cons (rn : Nat → List W → M W) (a : S) (r : Ss) (ρ : Rho) (s : Sto) : go (denSs rn (.cons a r) ρ) s = bindR (go (denS rn a ρ) s) fun p s' => match p.1 with
  | .nx => go (denSs rn r p.2) s'
  | .rt w => .ok (.rt w, p.2) s' := by
  show go (denS rn a ρ >>= fun p => match p.1 with
    | .nx => denSs rn r p.2
    | .rt w => M.pure (.rt w, p.2)) s = _
  rw [go_bind]
  congr 1
  funext p s
  obtain ⟨fl, ρ⟩ := p
  cases fl <;> rfl
theorem den_nil (rn : Nat → List W → M W) (ρ : Rho) (s : Sto) : go (denSs rn .nil ρ) s = .ok (.nx, ρ) s := rfl
theorem and_ok (c p : Bool) (s : Sto) : (if c = true then Res.ok (W.d (.bool p)) s else Res.ok (W.d (.bool false)) s) = Res.ok (W.d (.bool (c && p))) s := by cases c <;> rfl
theorem or_ok (c p : Bool) (s : Sto) : (if c = true then Res.ok (W.d (.bool true)) s else Res.ok (W.d (.bool p)) s) = Res.ok (W.d (.bool (c || p))) s := by cases c <;> rfl
theorem take_len (st : Sto) : List.take st.length st = st := List.take_length
theorem take_app (st r : Sto) : List.take st.length (st ++ r) = st := by simp
theorem go_comp_nil (f : PyData → M (Option PyData)) (acc : List PyData) (s : Sto) : go (compM f [] acc) s = .ok acc s := rfl
theorem go_comp_cons (f : PyData → M (Option PyData)) (x : PyData) (r acc : List PyData) (s : Sto) : go (compM f (x :: r) acc) s = bindR (go (f x) s) fun o s' => match o with
  | some y => if acc.length < SZ then go (compM f r (acc ++ [y])) s' else .bad
  | none => go (compM f r acc) s' := by
  show go (f x >>= fun o => match o with
    | some y => if acc.length < SZ then compM f r (acc ++ [y]) else M.bad
    | none => compM f r acc) s = _
  rw [go_bind]
  congr 1
  funext o s'
  cases o with
  | none => rfl
  | some y => exact go_ite _ _ _ _
theorem go_comp {f : PyData → M (Option PyData)} (g : PyData → Option PyData) {s : Sto} : ∀ (xs acc : List PyData), (∀ x ∈ xs, go (f x) s = .ok (g x) s) → acc.length + xs.length ≤ SZ → go (compM f xs acc) s = .ok (acc ++ xs.filterMap g) s
  | [], acc, _, _ => by rw [go_comp_nil, List.filterMap_nil, List.append_nil]
  | x :: r, acc, h, hl => by
    rw [List.length_cons] at hl
    rw [go_comp_cons, h x List.mem_cons_self, bindR_ok, List.filterMap_cons]
    cases g x with
    | none =>
      dsimp only
      exact go_comp g r acc (fun y hy => h y (List.mem_cons_of_mem _ hy)) (by omega)
    | some y =>
      dsimp only
      rw [if_pos (by omega), go_comp g r (acc ++ [y]) (fun y hy => h y (List.mem_cons_of_mem _ hy)) (by rw [List.length_append, List.length_singleton]; omega), List.append_assoc]
      rfl
theorem go_for_nil (f : PyData → Rho → M (Fl × Rho)) (ρ : Rho) (s : Sto) : go (forM f [] ρ) s = .ok (.nx, ρ) s := rfl
theorem go_for_cons (f : PyData → Rho → M (Fl × Rho)) (x : PyData) (r : List PyData) (ρ : Rho) (s : Sto) : go (forM f (x :: r) ρ) s = bindR (go (f x ρ) s) fun p s' => match p.1 with
  | .nx => go (forM f r p.2) s'
  | .rt w => .ok (.rt w, p.2) s' := by
  show go (f x ρ >>= fun p => match p.1 with
    | .nx => forM f r p.2
    | .rt w => M.pure (.rt w, p.2)) s = _
  rw [go_bind]
  congr 1
  funext p s
  obtain ⟨fl, ρ⟩ := p
  cases fl <;> rfl
theorem rw_bind {r : Res α} {k : α → Sto → Res β} {P : β → Sto → Prop} (h : RWp r fun a s => RWp (k a s) P) : RWp (bindR r k) P := by
  cases r with
  | ok a s => exact h
  | exc c d s => exact h.elim
  | bad => exact h.elim
theorem rw_ok {a : α} {s : Sto} {P : α → Sto → Prop} (h : P a s) : RWp (.ok a s) P := h
theorem rw_eq {r : Res α} {a : α} {s : Sto} {P : α → Sto → Prop} (e : r = .ok a s) (h : P a s) : RWp r P := by rw [e]; exact h
theorem rw_then {r : Res α} {P P' : α → Sto → Prop} (h : RWp r P) (f : ∀ a s, P a s → P' a s) : RWp r P' := h.mono f
theorem rw_comp {f : PyData → M (Option PyData)} {P : List PyData → Sto → Prop} (I : List PyData → List PyData → Sto → Prop) : ∀ (xs acc : List PyData) (s : Sto), I xs acc s → acc.length + xs.length ≤ SZ →
    (∀ x r acc s, I (x :: r) acc s → RWp (go (f x) s) fun o s' => I r (acc ++ o.toList) s') → (∀ acc s, I [] acc s → P acc s) → RWp (go (compM f xs acc) s) P
  | [], acc, s, h, _, _, hd => hd acc s h
  | x :: r, acc, s, h, hl, hs, hd => by
    rw [List.length_cons] at hl
    rw [go_comp_cons]
    refine rw_bind ((hs x r acc s h).mono fun o s' q => ?_)
    cases o with
    | none => exact rw_comp I r acc s' (by simpa using q) (by omega) hs hd
    | some y =>
      dsimp only
      rw [if_pos (by omega)]
      exact rw_comp I r (acc ++ [y]) s' q (by rw [List.length_append, List.length_singleton]; omega) hs hd
theorem rw_for {f : PyData → Rho → M (Fl × Rho)} {P : Fl × Rho → Sto → Prop} (I : List PyData → Rho → Sto → Prop) : ∀ (xs : List PyData) (ρ : Rho) (s : Sto), I xs ρ s →
    (∀ x r ρ s, I (x :: r) ρ s → RWp (go (f x ρ) s) fun p s' => match p.1 with
      | .nx => I r p.2 s'
      | .rt w => P (.rt w, p.2) s') → (∀ ρ s, I [] ρ s → P (.nx, ρ) s) → RWp (go (forM f xs ρ) s) P
  | [], ρ, s, h, _, hd => hd ρ s h
  | x :: r, ρ, s, h, hs, hd => by
    rw [go_for_cons]
    refine rw_bind ((hs x r ρ s h).mono fun p s' q => ?_)
    obtain ⟨fl, ρ'⟩ := p
    cases fl with
    | nx => exact rw_for I r ρ' s' q hs hd
    | rt w => exact q
theorem rw_gc {n : Nat} {r : Res W} {P : W → Sto → Prop} (h : RWp r fun w s => RWp (gcW n (.ok w s)) P) : RWp (gcW n r) P := by
  cases r with
  | ok w s => exact h
  | exc c d s => exact h.elim
  | bad => exact h.elim
end
end Gd
namespace Gd
open PySem PySem.Spec L2 PyProof.Rows PySem.W
def upI (l : List Int) : List Int := l.mergeSort fun a b => decide (a ≤ b)
def dnI (l : List Int) : List Int := l.mergeSort fun a b => decide (b ≤ a)
def upS (l : List Str) : List Str := l.mergeSort fun a b => decide (a.cps.toList ≤ b.cps.toList)
theorem sort_up (l : List Int) : sortD false (l.map .int) = (upI l).map .int := by
  unfold sortD upI
  rw [List.map_mergeSort (s := dataLe false id)]
  intro a _ b _
  exact (congrFun (congrFun (dataLe_int (β := Int) id) a) b).symm
theorem sort_dn (l : List Int) : sortD true (l.map .int) = (dnI l).map .int := by
  unfold sortD dnI
  rw [List.map_mergeSort (s := dataLe true id)]
  intro a _ b _
  exact (congrFun (congrFun (dataGe_int (β := Int) id) a) b).symm
theorem sort_upS (l : List Str) : sortD false (l.map .str) = (upS l).map .str := by
  unfold sortD upS
  rw [List.map_mergeSort (s := dataLe false id)]
  intro a _ b _
  exact (congrFun (congrFun (dataLe_str (β := Str) id) a) b).symm
theorem up_perm (l : List Int) : (upI l).Perm l := List.mergeSort_perm l _
theorem dn_perm (l : List Int) : (dnI l).Perm l := List.mergeSort_perm l _
theorem upS_perm (l : List Str) : (upS l).Perm l := List.mergeSort_perm l _
theorem up_pw (l : List Int) : (upI l).Pairwise (· ≤ ·) := by
  have := List.pairwise_mergeSort (le := fun a b : Int => decide (a ≤ b)) (fun a b c h1 h2 => by simp only [decide_eq_true_eq] at *; omega) (fun a b => by simp only [Bool.or_eq_true, decide_eq_true_eq]; omega) l
  simpa [upI] using this
theorem dn_pw (l : List Int) : (dnI l).Pairwise fun a b => b ≤ a := by
  have := List.pairwise_mergeSort (le := fun a b : Int => decide (b ≤ a)) (fun a b c h1 h2 => by simp only [decide_eq_true_eq] at *; omega) (fun a b => by simp only [Bool.or_eq_true, decide_eq_true_eq]; omega) l
  simpa [dnI] using this
theorem upS_pw (l : List Str) : (upS l).Pairwise fun a b => a.cps.toList ≤ b.cps.toList := by
  have := List.pairwise_mergeSort (le := fun a b : Str => decide (a.cps.toList ≤ b.cps.toList)) (fun a b c h1 h2 => by simp only [decide_eq_true_eq] at *; exact List.le_trans h1 h2) (fun a b => by simp only [Bool.or_eq_true, decide_eq_true_eq]; exact List.le_total _ _) l
  simpa [upS] using this
theorem up_rev (l : List Int) : (upI l).reverse = dnI l := by
  refine List.Perm.eq_of_pairwise (le := fun a b : Int => b ≤ a) (fun a b _ _ h1 h2 => Int.le_antisymm h2 h1) ?_ (dn_pw l) ((List.reverse_perm _).trans ((up_perm l).trans (dn_perm l).symm))
  rw [List.pairwise_reverse]
  exact up_pw l
theorem dn_rep (n : Nat) (v : Int) : dnI (List.replicate n v) = List.replicate n v := by
  have := dn_perm (List.replicate n v)
  exact List.perm_replicate.mp this
theorem dn_len (l : List Int) : (dnI l).length = l.length := (dn_perm l).length_eq
theorem upS_id {l : List Str} (h : l.Pairwise fun a b => strLt a b = true) : upS l = l := by
  unfold upS
  refine List.mergeSort_of_pairwise (h.imp fun {a b} q => ?_)
  simp only [strLt, decide_eq_true_eq] at *
  exact List.le_of_lt q
theorem strLt_irr (x : Str) : strLt x x = false := by
  unfold strLt
  simp [List.lt_irrefl]
theorem set_strs (l : List Str) : ∃ k : List Str, sortD false (onceD (l.map .str)) = k.map .str ∧ k.Pairwise (fun a b => strLt a b = true) ∧ ∀ x, x ∈ k ↔ x ∈ l := by
  obtain ⟨k, e, n, m⟩ := once_strs l
  refine ⟨upS k, by rw [e, sort_upS], ?_, fun x => ((upS_perm k).mem_iff).trans (m x)⟩
  have p := upS_pw k
  have n2 : (upS k).Pairwise (· ≠ ·) := (upS_perm k).nodup_iff.mpr n
  refine (List.Pairwise.and p n2).imp fun {a b} q => ?_
  simp only [strLt, decide_eq_true_eq]
  exact Decidable.byContradiction fun z => q.2 (str_eq_of_list (List.le_antisymm q.1 (List.not_lt.mp z)))
theorem lt_nodup {l : List Str} (h : l.Pairwise fun a b => strLt a b = true) : l.Nodup := h.imp fun {a b} q z => by
  rw [z, strLt_irr] at q
  exact Bool.false_ne_true q
theorem lt_ext {l k : List Str} (h1 : l.Pairwise fun a b => strLt a b = true) (h2 : k.Pairwise fun a b => strLt a b = true) (m : ∀ x, x ∈ l ↔ x ∈ k) : l = k := by
  have p := nodup_perm (lt_nodup h1) (lt_nodup h2) m
  refine List.Perm.eq_of_pairwise (fun a b _ _ q1 q2 => ?_) h1 h2 p
  simp only [strLt, decide_eq_true_eq] at q1 q2
  exact absurd (List.lt_trans q1 q2) (List.lt_irrefl _)
theorem nodup_le {l k : List Str} (h : l.Nodup) (m : ∀ x ∈ l, x ∈ k) : l.length ≤ k.length := by
  induction l generalizing k with
  | nil => exact Nat.zero_le _
  | cons x l ih =>
    obtain ⟨n1, n2⟩ := List.nodup_cons.mp h
    have hx := m x List.mem_cons_self
    have := ih (k := k.erase x) n2 fun y hy => (List.mem_erase_of_ne (fun (z : y = x) => n1 (z ▸ hy))).mpr (m y (List.mem_cons_of_mem _ hy))
    rw [List.length_erase_of_mem hx] at this
    have p : 0 < k.length := List.length_pos_of_mem hx
    rw [List.length_cons]
    omega
theorem ints_map : ∀ l : List Int, intsD (l.map .int) = some l
  | [] => rfl
  | x :: l => by rw [List.map_cons, intsD, ints_map l]; rfl
theorem strs_map : ∀ l : List Str, strsD (l.map .str) = some l
  | [] => rfl
  | x :: l => by rw [List.map_cons, strsD, strs_map l]; rfl
theorem bools_map : ∀ l : List Bool, boolsD (l.map .bool) = some l
  | [] => rfl
  | x :: l => by rw [List.map_cons, boolsD, bools_map l]; rfl
theorem okOnce_strs {l : List Str} (h : l.length ≤ 1000) : okOnce (l.map .str) = true := by
  unfold okOnce
  rw [strs_map, List.length_map]
  simp [h]
theorem okSort_strs {l : List Str} (h : l.length ≤ SZ) (ho : ∀ x ∈ l, PyData.strOk x = true) : okSort (l.map .str) = true := by
  unfold okSort
  simp only [List.length_map, List.all_map, Bool.and_eq_true, decide_eq_true_eq, Bool.or_eq_true, List.all_eq_true]
  refine ⟨⟨⟨h, fun x hx => ?_⟩, fun x _ => ?_⟩, .inr fun x _ => rfl⟩
  · simp [PyData.canLay0, PyData.depth, ho x hx]
  · simp only [Function.comp_apply, List.all_eq_true]
    exact fun _ _ => rfl
theorem okSort_ints {l : List Int} (h : l.length ≤ SZ) : okSort (l.map .int) = true := by
  unfold okSort
  simp only [List.length_map, List.all_map, Bool.and_eq_true, decide_eq_true_eq, Bool.or_eq_true, List.all_eq_true]
  refine ⟨⟨⟨h, fun x hx => ?_⟩, fun x _ => ?_⟩, .inr fun x _ => rfl⟩
  · simp [PyData.canLay0, PyData.depth]
  · simp only [Function.comp_apply, List.all_eq_true]
    exact fun _ _ => rfl
theorem eqv_str (x y : Str) : PyData.eqv (.str x) (.str y) = decide (x = y) := by
  have := any_strs x [y]
  simpa using this
theorem eqv_int (x y : Int) : PyData.eqv (.int x) (.int y) = decide (x = y) := by
  have := any_ints x [y]
  simpa using this
def prD (p : Str × Int) : PyData := .tuple [.str p.1, .int p.2]
def kvD (p : Str × Int) : PyData × PyData := (.str p.1, .int p.2)
theorem dct_prs : ∀ l : List (Str × Int), dctD (l.map prD) = some (l.map kvD)
  | [] => rfl
  | p :: l => by
    show (dctD (l.map prD)).map _ = _
    rw [dct_prs l]
    rfl
theorem okDct_prs {l : List (Str × Int)} (h : l.length ≤ 1000) (n : (l.map (·.1)).Nodup) : okDct (l.map kvD) = true := by
  obtain ⟨k, e, n2, m⟩ := once_strs (l.map (·.1))
  unfold okDct
  have e2 : (l.map kvD).map (·.1) = (l.map (·.1)).map PyData.str := by simp [kvD, List.map_map, Function.comp_def]
  rw [e2, e]
  have := (nodup_perm n2 n m).length_eq
  simp only [List.length_map] at *
  simp [h, this]
theorem get_prs (x : Str) : ∀ l : List (Str × Int), getKey (.str x) (l.map kvD) = (List.lookup x l).map PyData.int
  | [] => rfl
  | p :: l => by
    rw [List.map_cons, getKey, List.lookup]
    show (if PyData.eqv (.str p.1) (.str x) then some (PyData.int p.2) else _) = _
    rw [eqv_str, get_prs x l]
    by_cases h : p.1 = x
    · subst h
      simp
    · have : (x == p.1) = false := by simp [beq_eq_false_iff_ne]; exact fun z => h z.symm
      simp [h, this]
theorem go_dctT {l : List (Str × Int)} (h : l.length ≤ 1000) (n : (l.map (·.1)).Nodup) (s : Sto) : go (dctM (.d (.tuple (l.map prD)))) s = .ok (.d (.dict (l.map kvD))) s := by
  unfold dctM
  simp only [go_bind, go_rdD, bindR_ok, sqD, go_ofS, dct_prs, okDct_prs h n, go_ite, go_pure, if_true]
theorem go_dctL {l : List (Str × Int)} (h : l.length ≤ 1000) (n : (l.map (·.1)).Nodup) (s : Sto) : go (dctM (.d (.list (l.map prD)))) s = .ok (.d (.dict (l.map kvD))) s := by
  unfold dctM
  simp only [go_bind, go_rdD, bindR_ok, sqD, go_ofS, dct_prs, okDct_prs h n, go_ite, go_pure, if_true]
theorem go_comp_of {β : Type} {f : PyData → M (Option PyData)} (i : β → PyData) (g : β → PyData) {s : Sto} (xs : List β) (h : ∀ b ∈ xs, go (f (i b)) s = .ok (some (g b)) s) (hl : xs.length ≤ SZ) : go (compM f (xs.map i) []) s = .ok (xs.map g) s := by
  have key : ∀ (xs : List β) (acc : List PyData), (∀ b ∈ xs, go (f (i b)) s = .ok (some (g b)) s) → acc.length + xs.length ≤ SZ → go (compM f (xs.map i) acc) s = .ok (acc ++ xs.map g) s := by
    intro xs
    induction xs with
    | nil => intro acc _ _; rw [List.map_nil, go_comp_nil, List.map_nil, List.append_nil]
    | cons x r ih =>
      intro acc h hl
      rw [List.length_cons] at hl
      rw [List.map_cons, go_comp_cons, h x List.mem_cons_self, bindR_ok]
      dsimp only
      rw [if_pos (by omega), ih _ (fun y hy => h y (List.mem_cons_of_mem _ hy)) (by rw [List.length_append, List.length_singleton]; omega), List.map_cons, List.append_assoc]
      rfl
  have := key xs [] h (by rw [List.length_nil]; omega)
  rwa [List.nil_append] at this
theorem all_true {β : Type} (xs : List β) : biD .all [.list (xs.map fun _ => .bool true)] = some (.bool true) := by
  have : (xs.map fun _ => PyData.bool true) = (xs.map fun _ => true).map .bool := by rw [List.map_map]; rfl
  simp only [biD, this, bools_map, Option.map_some]
  congr 2
  rw [List.all_eq_true]
  intro x hx
  obtain ⟨_, _, e⟩ := List.mem_map.mp hx
  rw [← e]; rfl
theorem all_bools {β : Type} (g : β → Bool) (xs : List β) : biD .all [.list (xs.map fun b => .bool (g b))] = some (.bool (xs.all g)) := by
  have : (xs.map fun b => PyData.bool (g b)) = (xs.map g).map .bool := by rw [List.map_map]; rfl
  simp only [biD, this, bools_map, Option.map_some, List.all_map]
  rfl
theorem sum_ints {β : Type} (g : β → Int) (xs : List β) : biD .sum [.list (xs.map fun b => .int (g b))] = some (.int (xs.map g).sum) := by
  have : (xs.map fun b => PyData.int (g b)) = (xs.map g).map .int := by rw [List.map_map]; rfl
  simp only [biD, this, ints_map, Option.map_some]
theorem sum_intL (xs : List Int) : biD .sum [.list (xs.map .int)] = some (.int xs.sum) := by
  simp only [biD, ints_map, Option.map_some]
theorem ixN_nat (n k : Nat) : ixN n (k : Int) = if k < n then some k else none := by
  unfold ixN
  rw [if_pos (by omega), Int.toNat_natCast]
  simp only [Int.ofNat_lt]
theorem idx_at (xs : List PyData) (k : Nat) {d : PyData} (h : xs[k]? = some d) : idxD (.tuple xs) (.int k) = some d := by
  obtain ⟨hk, _⟩ := List.getElem?_eq_some_iff.mp h
  simp only [idxD, ixN_nat, if_pos hk, Option.bind_some, h]
theorem idxL_at (xs : List PyData) (k : Nat) {d : PyData} (h : xs[k]? = some d) : idxD (.list xs) (.int k) = some d := by
  obtain ⟨hk, _⟩ := List.getElem?_eq_some_iff.mp h
  simp only [idxD, ixN_nat, if_pos hk, Option.bind_some, h]
theorem idx_0 (a : PyData) (r : List PyData) : idxD (.tuple (a :: r)) (.int 0) = some a := idx_at _ 0 rfl
theorem idx_1 (a b : PyData) (r : List PyData) : idxD (.tuple (a :: b :: r)) (.int 1) = some b := idx_at _ 1 rfl
theorem idx_2 (a b c : PyData) (r : List PyData) : idxD (.tuple (a :: b :: c :: r)) (.int 2) = some c := idx_at _ 2 rfl
theorem idxL_0 (a : PyData) (r : List PyData) : idxD (.list (a :: r)) (.int 0) = some a := idxL_at _ 0 rfl
theorem idxL_1 (a b : PyData) (r : List PyData) : idxD (.list (a :: b :: r)) (.int 1) = some b := idxL_at _ 1 rfl
theorem idxL_2 (a b c : PyData) (r : List PyData) : idxD (.list (a :: b :: c :: r)) (.int 2) = some c := idxL_at _ 2 rfl
theorem cut_all {α : Type} (xs : List α) : cutD xs none none = xs := by
  unfold cutD
  rw [HT.sIx_none, HT.sIx_none, List.drop_zero, Nat.sub_zero, List.take_length]
theorem cut_hi {α : Type} (xs : List α) (k : Nat) : cutD xs none (some (k : Int)) = xs.take k := by
  unfold cutD
  rw [HT.sIx_none, HT.sIx_nat, List.drop_zero, Nat.sub_zero]
  by_cases h : k ≤ xs.length
  · rw [Nat.min_eq_left h]
  · rw [Nat.min_eq_right (by omega), List.take_length, List.take_of_length_le (by omega)]
theorem cut_lo {α : Type} (xs : List α) (k : Nat) : cutD xs (some (k : Int)) none = xs.drop k := by
  unfold cutD
  rw [HT.sIx_none, HT.sIx_nat]
  by_cases h : k ≤ xs.length
  · rw [Nat.min_eq_left h, ← List.length_drop, List.take_length]
  · rw [Nat.min_eq_right (by omega), Nat.sub_self, List.take_zero, List.drop_of_length_le (by omega)]
theorem cut_1 {α : Type} (xs : List α) : cutD xs (some 1) none = xs.drop 1 := cut_lo xs 1
theorem pairs_map {α β : Type} (f : α → PyData) (g : β → PyData) (xs : List α) (ys : List β) : pairsD (xs.map f) (ys.map g) = (xs.zip ys).map fun p => .tuple [f p.1, g p.2] := by
  unfold pairsD
  rw [List.zipWith_map]
  exact (List.map_zip_eq_zipWith (f := fun p : α × β => PyData.tuple [f p.1, g p.2])).symm
theorem cmp_eqI (i j : Int) : cmpD .eq (.int i) (.int j) = some (decide (i = j)) := by
  rw [← eqv_int]; rfl
theorem cmp_neI (i j : Int) : cmpD .ne (.int i) (.int j) = some (!decide (i = j)) := by
  rw [← eqv_int]; rfl
theorem can_all : ∀ xs : List PyData, PyData.canLayAll0 xs = true ↔ ∀ x ∈ xs, x.canLay0 = true
  | [] => by simp [PyData.canLayAll0]
  | x :: xs => by simp [PyData.canLayAll0, can_all xs]
theorem depth_all (m : Nat) : ∀ xs : List PyData, PyData.depthAll xs ≤ m ↔ ∀ x ∈ xs, x.depth ≤ m
  | [] => by simp [PyData.depthAll]
  | x :: xs => by
    rw [PyData.depthAll, Nat.max_le, depth_all m xs]
    simp
def Shp (m : Nat) (d : PyData) : Prop := d.canLay0 = true ∧ d.depth ≤ m
theorem Shp.mono {m k : Nat} {d : PyData} (h : Shp m d) (l : m ≤ k) : Shp k d := ⟨h.1, Nat.le_trans h.2 l⟩
theorem Shp.int (m : Nat) (i : Int) : Shp m (.int i) := ⟨rfl, Nat.zero_le _⟩
theorem Shp.bool (m : Nat) (i : Bool) : Shp m (.bool i) := ⟨rfl, Nat.zero_le _⟩
theorem Shp.none (m : Nat) : Shp m .none := ⟨rfl, Nat.zero_le _⟩
theorem Shp.str (m : Nat) {x : Str} (h : PyData.strOk x = true) : Shp m (.str x) := ⟨by simp [PyData.canLay0, h], Nat.zero_le _⟩
theorem Shp.tuple {m : Nat} {xs : List PyData} (h : ∀ x ∈ xs, Shp m x) : Shp (m + 1) (.tuple xs) := ⟨by
  rw [PyData.canLay0, can_all]
  exact fun x hx => (h x hx).1, by
  rw [PyData.depth]
  exact Nat.succ_le_succ ((depth_all m xs).mpr fun x hx => (h x hx).2)⟩
theorem Shp.list {m : Nat} {xs : List PyData} (h : ∀ x ∈ xs, Shp m x) : Shp (m + 1) (.list xs) := ⟨by
  rw [PyData.canLay0, can_all]
  exact fun x hx => (h x hx).1, by
  rw [PyData.depth]
  exact Nat.succ_le_succ ((depth_all m xs).mpr fun x hx => (h x hx).2)⟩
theorem Shp.shaped {m : Nat} {d : PyData} (h : Shp m d) (l : m ≤ 64) : SeqAt.shaped d = true := by
  unfold SeqAt.shaped
  rw [h.1, decide_eq_true (Nat.le_trans h.2 l)]
  rfl
theorem cmp_eqE {m : Nat} {xs : List PyData} (h : Shp m (.tuple xs)) (l : m ≤ 64) : cmpD .eq (.tuple xs) (.tuple []) = some (decide (xs = [])) := by
  unfold cmpD
  dsimp only
  rw [h.shaped l]
  cases xs with
  | nil => rfl
  | cons x r => rfl
theorem cmp_neE {m : Nat} {xs : List PyData} (h : Shp m (.tuple xs)) (l : m ≤ 64) : cmpD .ne (.tuple xs) (.tuple []) = some (!decide (xs = [])) := by
  unfold cmpD
  dsimp only
  rw [h.shaped l]
  cases xs with
  | nil => rfl
  | cons x r => rfl
theorem len_T (xs : List PyData) : biD .len [.tuple xs] = some (.int xs.length) := rfl
theorem len_L (xs : List PyData) : biD .len [.list xs] = some (.int xs.length) := rfl
theorem len_S {x : Str} (h : x.length ≤ SZ) : biD .len [.str x] = some (.int x.length) := by
  simp only [biD, lenD, if_pos h, Option.map_some]
def abc : List Nat := [97, 98, 99, 100, 101, 102, 103, 104, 105, 106, 107, 108, 109, 110, 111, 112, 113, 114, 115, 116, 117, 118, 119, 120, 121, 122]
def wds : List Str := Str.ofString "all" :: Str.ofString "at" :: Str.ofString "best" :: Str.ofString "by" :: Str.ofString "close" :: Str.ofString "correct" :: Str.ofString "day" :: Str.ofString "each" :: Str.ofString "from" :: Str.ofString "grade" :: Str.ofString "hurdle" :: Str.ofString "least" :: Str.ofString "letter" :: Str.ofString "mark" :: Str.ofString "may" :: Str.ofString "names" :: Str.ofString "needs" :: Str.ofString "never" :: Str.ofString "no" :: Str.ofString "none" :: Str.ofString "not" :: Str.ofString "of" :: Str.ofString "open" :: Str.ofString "over" :: Str.ofString "rank" :: Str.ofString "rule" :: Str.ofString "scale" :: Str.ofString "score" :: Str.ofString "sum" :: Str.ofString "sure" :: Str.ofString "to" :: Str.ofString "with" :: Str.ofString "work" :: Str.ofString "works" :: []
def Nm (x : Str) : Prop := 1 ≤ x.cps.toList.length ∧ x.cps.toList.length ≤ 8 ∧ (∀ c ∈ x.cps.toList, c ∈ abc) ∧ x ∉ wds
theorem abc_in : ∀ c ∈ abc, inD (.str ⟨#[c]⟩) (.str "abcdefghijklmnopqrstuvwxyz") = some true := by decide +kernel
theorem abc_lt : ∀ c ∈ abc, c < 1114112 := by decide
theorem Nm.strOk {x : Str} (h : Nm x) : PyData.strOk x = true := by
  unfold PyData.strOk
  rw [← Array.all_toList, List.all_eq_true]
  exact fun c hc => decide_eq_true (abc_lt c (h.2.2.1 c hc))
theorem Nm.flat {x : Str} (h : Nm x) : x.length ≤ SZ := by
  have := h.2.1
  rw [Array.length_toList] at this
  show x.cps.size ≤ SZ
  unfold SZ; omega
theorem inT_strs {x : Str} (l : List Str) : inD (.str x) (.tuple (l.map .str)) = some (decide (x ∈ l)) := by
  unfold inD
  dsimp only
  rw [if_pos]
  · congr 1
    rw [List.any_map]
    rw [Bool.eq_iff_iff]
    simp only [List.any_eq_true, Function.comp_apply, eqv_str, decide_eq_true_eq]
    exact ⟨fun ⟨y, h1, h2⟩ => h2 ▸ h1, fun h => ⟨x, h, rfl⟩⟩
  · simp [flatD]
theorem inL_strs {x : Str} (l : List Str) : inD (.str x) (.list (l.map .str)) = some (decide (x ∈ l)) := inT_strs l
end Gd
namespace Gd
open PySem PySem.Spec L2
mutual
inductive Tr where
  | work (x : Str)
  | pick (b : Bool) (k : Nat) (xs : List Str)
  | sum (ts : Ts)
inductive Ts where
  | nil
  | cons (w : Int) (t : Tr) (r : Ts)
end
def pkD (b : Bool) : PyData := .str (if b then "best" else "rank")
mutual
def Tr.d : Tr → PyData
  | .work x => .tuple [.str "work", .str x]
  | .pick b k xs => .tuple [pkD b, .int k, .tuple (xs.map .str)]
  | .sum ts => .tuple [.str "sum", .tuple ts.ds]
def Ts.ds : Ts → List PyData
  | .nil => []
  | .cons w t r => .tuple [.int w, t.d] :: r.ds
end
def Ts.l : Ts → List (Int × Tr)
  | .nil => []
  | .cons w t r => (w, t) :: r.l
def Ts.of : List (Int × Tr) → Ts
  | [] => .nil
  | p :: r => .cons p.1 p.2 (Ts.of r)
def tmD (p : Int × Tr) : PyData := .tuple [.int p.1, p.2.d]
theorem Ts.of_l : ∀ l : List (Int × Tr), (Ts.of l).l = l
  | [] => rfl
  | p :: r => congrArg (p :: ·) (Ts.of_l r)
theorem Ts.ds_l : ∀ ts : Ts, ts.ds = ts.l.map tmD
  | .nil => rfl
  | .cons w t r => congrArg (PyData.tuple [.int w, t.d] :: ·) (Ts.ds_l r)
mutual
theorem Tr.ind {P : Tr → Prop} (h1 : ∀ x, P (.work x)) (h2 : ∀ b k xs, P (.pick b k xs)) (h3 : ∀ ts : Ts, (∀ p ∈ ts.l, P p.2) → P (.sum ts)) : ∀ t, P t
  | .work x => h1 x
  | .pick b k xs => h2 b k xs
  | .sum ts => h3 ts (Ts.ind h1 h2 h3 ts)
theorem Ts.ind {P : Tr → Prop} (h1 : ∀ x, P (.work x)) (h2 : ∀ b k xs, P (.pick b k xs)) (h3 : ∀ ts : Ts, (∀ p ∈ ts.l, P p.2) → P (.sum ts)) : ∀ ts : Ts, ∀ p ∈ ts.l, P p.2
  | .nil => fun p h => nomatch h
  | .cons w t r => fun p h => by
    rcases List.mem_cons.mp h with z | z
    · rw [z]; exact Tr.ind h1 h2 h3 t
    · exact Ts.ind h1 h2 h3 r p z
end
mutual
def Tr.nodes : Tr → Nat
  | .work _ => 1
  | .pick _ _ _ => 1
  | .sum ts => 1 + ts.nodes
def Ts.nodes : Ts → Nat
  | .nil => 0
  | .cons _ t r => t.nodes + r.nodes
end
theorem Ts.nodes_l : ∀ ts : Ts, ts.nodes = (ts.l.map (·.2.nodes)).sum
  | .nil => rfl
  | .cons w t r => by rw [Ts.nodes, Ts.nodes_l r]; rfl
mutual
def Tr.works : Tr → List Str
  | .work x => [x]
  | .pick _ _ xs => xs
  | .sum ts => ts.works
def Ts.works : Ts → List Str
  | .nil => []
  | .cons _ t r => t.works ++ r.works
end
theorem Ts.works_l : ∀ ts : Ts, ts.works = ts.l.flatMap (·.2.works)
  | .nil => rfl
  | .cons w t r => by rw [Ts.works, Ts.works_l r]; rfl
def pickV (b : Bool) (k : Nat) (row : List Int) : Int := if b then (row.take k).sum else row.getD (k - 1) 0
mutual
def Tr.val (f : Str → Int) : Tr → Int
  | .work x => f x
  | .pick b k xs => pickV b k (dnI (xs.map f))
  | .sum ts => ts.val f
def Ts.val (f : Str → Int) : Ts → Int
  | .nil => 0
  | .cons w t r => w * t.val f + r.val f
end
theorem Ts.val_l (f : Str → Int) : ∀ ts : Ts, ts.val f = (ts.l.map fun p => p.1 * p.2.val f).sum
  | .nil => rfl
  | .cons w t r => by rw [Ts.val, Ts.val_l f r]; rfl
def Wt (w : Int) : Prop := -100 ≤ w ∧ w ≤ 100 ∧ w ≠ 0
mutual
def Tr.Ok (ns : List Str) : Tr → Nat → Prop
  | .work x, lv => x ∈ ns ∧ 1 ≤ lv
  | .pick _ k xs, lv => 1 ≤ lv ∧ xs.Pairwise (fun a b => strLt a b = true) ∧ (∀ x ∈ xs, x ∈ ns) ∧ 1 ≤ k ∧ k ≤ xs.length
  | .sum ts, lv => 2 ≤ lv ∧ 1 ≤ ts.l.length ∧ ts.l.length ≤ 9 ∧ ts.Ok ns (lv - 1)
def Ts.Ok (ns : List Str) : Ts → Nat → Prop
  | .nil, _ => True
  | .cons w t r, lv => Wt w ∧ t.Ok ns lv ∧ r.Ok ns lv
end
theorem Ts.ok_l {ns : List Str} {lv : Nat} : ∀ ts : Ts, ts.Ok ns lv ↔ ∀ p ∈ ts.l, Wt p.1 ∧ p.2.Ok ns lv
  | .nil => by simp [Ts.Ok, Ts.l]
  | .cons w t r => by simp only [Ts.Ok, Ts.l, List.mem_cons, forall_eq_or_imp, Ts.ok_l r, and_assoc]
theorem Tr.Ok.pos {ns : List Str} {lv : Nat} : ∀ {t : Tr}, t.Ok ns lv → 1 ≤ lv
  | .work x, h => h.2
  | .pick _ _ _, h => h.1
  | .sum _, h => by have := h.1; omega
theorem Tr.nodes_pos : ∀ t : Tr, 1 ≤ t.nodes
  | .work _ => Nat.le_refl _
  | .pick _ _ _ => Nat.le_refl _
  | .sum _ => by rw [Tr.nodes]; omega
theorem Tr.works_in {ns : List Str} : ∀ (t : Tr) {lv : Nat}, t.Ok ns lv → ∀ x ∈ t.works, x ∈ ns := by
  refine Tr.ind (fun x lv h y hy => ?_) (fun b k xs lv h y hy => h.2.2.1 y hy) (fun ts ih lv h y hy => ?_)
  · rw [Tr.works, List.mem_singleton] at hy
    rw [hy]; exact h.1
  · rw [Tr.works, Ts.works_l, List.mem_flatMap] at hy
    obtain ⟨p, hp, hy⟩ := hy
    exact ih p hp ((Ts.ok_l ts).mp h.2.2.2 p hp).2 y hy
theorem Tr.works_pos {ns : List Str} : ∀ (t : Tr) {lv : Nat}, t.Ok ns lv → t.works ≠ [] := by
  refine Tr.ind (fun x lv h => by simp [Tr.works]) (fun b k xs lv h => ?_) (fun ts ih lv h => ?_)
  · have := h.2.2.2
    intro z
    rw [Tr.works] at z
    rw [z, List.length_nil] at this
    omega
  · obtain ⟨_, h2, _, h4⟩ := h
    rw [Tr.works, Ts.works_l]
    cases e : ts.l with
    | nil => rw [e] at h2; simp at h2
    | cons p r =>
      have hp : p ∈ ts.l := by rw [e]; exact List.mem_cons_self
      have := ih p hp ((Ts.ok_l ts).mp h4 p hp).2
      simp [List.flatMap_cons, this]
theorem Tr.val_ext {f g : Str → Int} : ∀ t : Tr, (∀ x ∈ t.works, f x = g x) → t.val f = t.val g := by
  refine Tr.ind (fun x h => h x (by simp [Tr.works])) (fun b k xs h => ?_) (fun ts ih h => ?_)
  · rw [Tr.val, Tr.val, List.map_congr_left (l := xs) (f := f) (g := g) h]
  · rw [Tr.val, Tr.val, Ts.val_l, Ts.val_l]
    congr 1
    refine List.map_congr_left fun p hp => ?_
    rw [ih p hp fun x hx => h x (by rw [Tr.works, Ts.works_l, List.mem_flatMap]; exact ⟨p, hp, hx⟩)]
theorem sum_map_mul (s : Int) (g : α → Int) : ∀ l : List α, (l.map fun p => s * g p).sum = s * (l.map g).sum
  | [] => by simp
  | x :: l => by simp [sum_map_mul s g l, Int.mul_add]
theorem sum_rep (s : Int) : ∀ n : Nat, (List.replicate n s).sum = s * n
  | 0 => by simp
  | n + 1 => by rw [List.replicate_succ, List.sum_cons, sum_rep s n, Int.natCast_succ, Int.mul_add]; omega
theorem Tr.val_alike (ns : List Str) (s : Int) : ∀ (t : Tr) {lv : Nat}, t.Ok ns lv → t.val (fun _ => s) = s * t.val (fun _ => 1) := by
  refine Tr.ind (fun x lv h => by simp [Tr.val]) (fun b k xs lv h => ?_) (fun ts ih lv h => ?_)
  · have h2 := h.2.2.2
    simp only [Tr.val, List.map_const', dn_rep, pickV, List.take_replicate, sum_rep]
    split
    · simp
    · simp only [List.getD_eq_getElem?_getD, List.getElem?_replicate]
      rw [if_pos (by omega), if_pos (by omega)]
      simp
  · rw [Tr.val, Tr.val, Ts.val_l, Ts.val_l, ← sum_map_mul]
    congr 1
    refine List.map_congr_left fun p hp => ?_
    rw [ih p hp ((Ts.ok_l ts).mp h.2.2.2 p hp).2, Int.mul_left_comm]
theorem sum_bd (B : Nat) : ∀ l : List Int, (∀ x ∈ l, x.natAbs ≤ B) → l.sum.natAbs ≤ l.length * B
  | [], _ => by simp
  | x :: l, h => by
    have h1 := h x List.mem_cons_self
    have h2 := sum_bd B l fun y hy => h y (List.mem_cons_of_mem _ hy)
    rw [List.sum_cons, List.length_cons, Nat.succ_mul]
    omega
theorem Tr.val_bd {ns : List Str} (hn : ns.length ≤ 9) {f : Str → Int} (hf : ∀ x ∈ ns, (f x).natAbs ≤ 100) : ∀ (t : Tr) {lv : Nat}, t.Ok ns lv → (t.val f).natAbs ≤ 900 ^ lv := by
  refine Tr.ind (fun x lv h => ?_) (fun b k xs lv h => ?_) (fun ts ih lv h => ?_)
  · obtain ⟨h1, h2⟩ := h
    have := hf x h1
    have := Nat.pow_le_pow_right (n := 900) (by decide) h2
    simp only [Tr.val]; omega
  · obtain ⟨h1, h2, h3, h4, h5⟩ := h
    have p9 := Nat.pow_le_pow_right (n := 900) (by decide) h1
    have hl : xs.length ≤ ns.length := nodup_le (lt_nodup h2) h3
    have hm : ∀ v ∈ dnI (xs.map f), v.natAbs ≤ 100 := fun v hv => by
      obtain ⟨x, hx, e⟩ := List.mem_map.mp ((dn_perm _).mem_iff.mp hv)
      rw [← e]; exact hf x (h3 x hx)
    simp only [Tr.val, pickV]
    split
    · have := sum_bd 100 ((dnI (xs.map f)).take k) fun v hv => hm v (List.mem_of_mem_take hv)
      rw [List.length_take] at this
      have q : min k (dnI (xs.map f)).length * 100 ≤ 9 * 100 := Nat.mul_le_mul_right _ (by rw [dn_len, List.length_map]; omega)
      omega
    · rw [List.getD_eq_getElem?_getD]
      cases e : (dnI (xs.map f))[k - 1]? with
      | none => simp
      | some v =>
        have := hm v (List.mem_of_getElem? e)
        simp only [Option.getD_some]; omega
  · obtain ⟨h1, h2, h3, h4⟩ := h
    obtain ⟨m, rfl⟩ : ∃ m, lv = m + 1 := ⟨lv - 1, by omega⟩
    have := sum_bd (100 * 900 ^ m) (ts.l.map fun p => p.1 * p.2.val f) fun v hv => by
      obtain ⟨p, hp, e⟩ := List.mem_map.mp hv
      obtain ⟨w, o⟩ := (Ts.ok_l ts).mp h4 p hp
      have b := ih p hp o
      rw [← e, Int.natAbs_mul]
      refine Nat.mul_le_mul ?_ b
      unfold Wt at w
      omega
    rw [List.length_map] at this
    rw [Tr.val, Ts.val_l, Nat.pow_succ]
    have := Nat.mul_le_mul_right (100 * 900 ^ m) h3
    simp only [Nat.add_sub_cancel] at *
    omega
end Gd
namespace Gd
open PySem PySem.Spec L2
theorem rw_to_eq {α : Type} {r : Res α} {a : α} {s : Sto} (h : RWp r fun a' s' => a' = a ∧ s' = s) : r = .ok a s := by
  cases r with
  | ok a' s' => rw [h.1, h.2]
  | exc c d s => exact h.elim
  | bad => exact h.elim
section
variable {β : Type}
theorem rw_forT {f : PyData → Rho → M (Fl × Rho)} {P : Fl × Rho → Sto → Prop} (i : β → PyData) (I : List β → Rho → Sto → Prop) : ∀ (xs : List β) (ρ : Rho) (s : Sto), I xs ρ s →
    (∀ x r ρ s, x ∈ xs → I (x :: r) ρ s → RWp (go (f (i x) ρ) s) fun p s' => match p.1 with
      | .nx => I r p.2 s'
      | .rt w => P (.rt w, p.2) s') → (∀ ρ s, I [] ρ s → P (.nx, ρ) s) → RWp (go (forM f (xs.map i) ρ) s) P
  | [], ρ, s, h, _, hd => hd ρ s h
  | x :: r, ρ, s, h, hs, hd => by
    rw [List.map_cons, go_for_cons]
    refine rw_bind ((hs x r ρ s List.mem_cons_self h).mono fun p s' q => ?_)
    obtain ⟨fl, ρ'⟩ := p
    cases fl with
    | nx => exact rw_forT i I r ρ' s' q (fun x r ρ s hx => hs x r ρ s (List.mem_cons_of_mem _ hx)) hd
    | rt w => exact q
theorem rw_compT {f : PyData → M (Option PyData)} {P : List PyData → Sto → Prop} (i : β → PyData) (I : List β → List PyData → Sto → Prop) : ∀ (xs : List β) (acc : List PyData) (s : Sto), I xs acc s → acc.length + xs.length ≤ SZ →
    (∀ x r acc s, x ∈ xs → I (x :: r) acc s → RWp (go (f (i x)) s) fun o s' => I r (acc ++ o.toList) s') → (∀ acc s, I [] acc s → P acc s) → RWp (go (compM f (xs.map i) acc) s) P
  | [], acc, s, h, _, _, hd => hd acc s h
  | x :: r, acc, s, h, hl, hs, hd => by
    rw [List.length_cons] at hl
    rw [List.map_cons, go_comp_cons]
    refine rw_bind ((hs x r acc s List.mem_cons_self h).mono fun o s' q => ?_)
    cases o with
    | none => exact rw_compT i I r acc s' (by simpa using q) (by omega) (fun x r acc s hx => hs x r acc s (List.mem_cons_of_mem _ hx)) hd
    | some y =>
      dsimp only
      rw [if_pos (by omega)]
      exact rw_compT i I r (acc ++ [y]) s' q (by rw [List.length_append, List.length_singleton]; omega) (fun x r acc s hx => hs x r acc s (List.mem_cons_of_mem _ hx)) hd
end
theorem chkL_s (w : Option W) (ρ : Rho) (i : Nat) : chkL (w :: ρ) (i + 1) = chkL ρ i := rfl
theorem modL_s (w : Option W) (ρ : Rho) (i : Nat) (k : List PyData → Option (W × List PyData)) : modL (w :: ρ) (i + 1) k = modL ρ i k := rfl
theorem go_chk {l : Nat} {xs : List PyData} {s : Sto} (ρ : Rho) (h : s[l]? = some (.lst xs)) : go (chkL (some (.r l) :: ρ) 0) s = .ok () s := by
  show (match s[l]? with
    | some (.lst _) => Res.ok () s
    | _ => .bad) = _
  rw [h]
theorem go_mod {l : Nat} {xs : List PyData} {s : Sto} (ρ : Rho) (k : List PyData → Option (W × List PyData)) (h : s[l]? = some (.lst xs)) : go (modL (some (.r l) :: ρ) 0 k) s = match k xs with
    | some (w, ys) => .ok w (s.set l (.lst ys))
    | none => .bad := by
  show (match s[l]? with
    | some (.lst xs) => (match k xs with
      | some (w, ys) => Res.ok w (s.set l (.lst ys))
      | none => .bad)
    | _ => .bad) = _
  rw [h]
theorem go_rdC {l : Nat} {xs : List PyData} {s : Sto} (h : s[l]? = some (.lst xs)) : go (rd (.r l)) s = .ok (.list xs) s := by
  show (match s[l]? with
    | some (.lst xs) => Res.ok (PyData.list xs) s
    | some (.dct kvs) => .ok (.dict kvs) s
    | _ => .bad) = _
  rw [h]
theorem go_fzC {l : Nat} {xs : List PyData} {s : Sto} (h : s[l]? = some (.lst xs)) : go (fzW (.r l)) s = .ok (.list xs) (s.set l .dead) := by
  show (match s[l]? with
    | some (.lst xs) => Res.ok (PyData.list xs) (s.set l .dead)
    | some (.dct kvs) => .ok (.dict kvs) (s.set l .dead)
    | _ => .bad) = _
  rw [h]
theorem get_last (st : Sto) (c : Bx) : (st ++ [c])[st.length]? = some c := by simp
theorem set_last (st : Sto) (c d : Bx) : (st ++ [c]).set st.length d = st ++ [d] := by simp
theorem go_chk1 (ρ : Rho) (st : Sto) (xs : List PyData) : go (chkL (some (.r st.length) :: ρ) 0) (st ++ [.lst xs]) = .ok () (st ++ [.lst xs]) := go_chk ρ (get_last st _)
theorem go_mod1 (ρ : Rho) (st : Sto) (xs : List PyData) (k : List PyData → Option (W × List PyData)) : go (modL (some (.r st.length) :: ρ) 0 k) (st ++ [.lst xs]) = match k xs with
    | some (w, ys) => .ok w (st ++ [.lst ys])
    | none => .bad := by
  rw [go_mod ρ k (get_last st _)]
  simp only [set_last]
theorem go_rd1 (st : Sto) (xs : List PyData) : go (rd (.r st.length)) (st ++ [.lst xs]) = .ok (.list xs) (st ++ [.lst xs]) := go_rdC (get_last st _)
theorem go_fz1 (st : Sto) (xs : List PyData) : go (fzW (.r st.length)) (st ++ [.lst xs]) = .ok (.list xs) (st ++ [.dead]) := by
  rw [go_fzC (get_last st _), set_last]
theorem go_fzm (w : W) (s : Sto) : go (fzM w) s = bindR (go (fzW w) s) fun y s' => .ok (.d y) s' := by
  unfold fzM
  simp only [go_bind, go_pure]
theorem ext_ok {xs ys : List PyData} (h : xs.length + ys.length ≤ SZ) : extK (.list ys) xs = some (.d .none, xs ++ ys) := if_pos h
theorem ext_okT {xs ys : List PyData} (h : xs.length + ys.length ≤ SZ) : extK (.tuple ys) xs = some (.d .none, xs ++ ys) := if_pos h
theorem app_ok {xs : List PyData} (y : PyData) (h : xs.length < SZ) : appK y xs = some (.d .none, xs ++ [y]) := if_pos h
theorem go_listT (xs : List PyData) (s : Sto) : go (listM [.d (.tuple xs)]) s = .ok xs s := rfl
theorem go_listL (xs : List PyData) (s : Sto) : go (listM [.d (.list xs)]) s = .ok xs s := rfl
theorem go_sortL {rev : Bool} {xs : List PyData} (h : okSort xs = true) (s : Sto) : go (sortM rev [.d (.list xs)]) s = .ok (sortD rev xs) s := by
  unfold sortM
  simp only [go_bind, go_rdD, bindR_ok, h, if_true, go_pure]
theorem go_sortT {rev : Bool} {xs : List PyData} (h : okSort xs = true) (s : Sto) : go (sortM rev [.d (.tuple xs)]) s = .ok (sortD rev xs) s := by
  unfold sortM
  simp only [go_bind, go_rdD, bindR_ok, h, if_true, go_pure]
theorem tup_L (xs : List PyData) : biD .tuple [.list xs] = some (.tuple xs) := rfl
theorem tup_T (xs : List PyData) : biD .tuple [.tuple xs] = some (.tuple xs) := rfl
theorem go_rev (xs : List PyData) (s : Sto) : go (revN (.d (.list xs))) s = .ok xs.reverse s := rfl
noncomputable def setS (l : List Str) : List Str := (set_strs l).choose
theorem setS_eq (l : List Str) : sortD false (onceD (l.map .str)) = (setS l).map .str := (set_strs l).choose_spec.1
theorem setS_pw (l : List Str) : (setS l).Pairwise fun a b => strLt a b = true := (set_strs l).choose_spec.2.1
theorem setS_mem {l : List Str} {x : Str} : x ∈ setS l ↔ x ∈ l := (set_strs l).choose_spec.2.2 x
theorem go_setS {l : List Str} (h : l.length ≤ 1000) (s : Sto) : go (setM (.d (.list (l.map .str)))) s = .ok ((setS l).map .str) s := by
  unfold setM
  simp only [go_bind, go_rdD, bindR_ok, okOnce_strs h, if_true, go_pure, setS_eq]
theorem idx_dict (kvs : List (PyData × PyData)) (x : Str) : idxD (.dict kvs) (.str x) = getKey (.str x) kvs := rfl
theorem slc_hiL (k : Nat) (xs : List PyData) : slcD none (some (k : Int)) (.list xs) = some (.list (xs.take k)) := by
  show some (PyData.list (cutD xs none (some (k : Int)))) = _
  rw [cut_hi]
theorem go_wh (c : Rho → M Bool) (b : Rho → M (Fl × Rho)) (n : Nat) (ρ : Rho) (s : Sto) : go (whM c b (n + 1) ρ) s = bindR (go (c ρ) s) fun t s' => if t then bindR (go (b ρ) s') fun p s2 => (match p.1 with
    | .nx => go (whM c b n p.2) s2
    | .rt w => .ok (.rt w, p.2) s2) else .ok (.nx, ρ) s' := by
  show go (c ρ >>= fun t => if t then (b ρ >>= fun p => match p.1 with
    | .nx => whM c b n p.2
    | .rt w => M.pure (.rt w, p.2)) else M.pure (.nx, ρ)) s = _
  rw [go_bind]
  congr 1
  funext t s'
  rw [go_ite]
  congr 1
  rw [go_bind]
  congr 1
  funext p s2
  obtain ⟨fl, ρ'⟩ := p
  cases fl <;> rfl
theorem wh_gcd {c : Rho → M Bool} {w : Rho → M (Fl × Rho)} (env : Nat → Nat → Rho) {s : Sto} (B : Nat) (hc : ∀ a b, go (c (env a b)) s = .ok (decide (0 < b)) s) (hb : ∀ a b, 0 < b → b < B → go (w (env a b)) s = .ok (.nx, env b (a % b)) s) : ∀ N a b, b < N → b < B → go (whM c w N (env a b)) s = .ok (.nx, env (Nat.gcd a b) 0) s
  | 0, a, b, h, _ => absurd h (Nat.not_lt_zero b)
  | N + 1, a, b, h, hB => by
    rw [go_wh, hc, bindR_ok]
    by_cases z : 0 < b
    · rw [decide_eq_true z, if_pos rfl, hb a b z hB, bindR_ok]
      have m := Nat.mod_lt a z
      rw [show Nat.gcd a b = Nat.gcd b (a % b) by rw [Nat.gcd_comm a b, Nat.gcd_rec b a, Nat.gcd_comm]]
      exact wh_gcd env B hc hb N b (a % b) (by omega) (by omega)
    · have : b = 0 := by omega
      subst this
      rw [decide_eq_false z, if_neg Bool.false_ne_true, Nat.gcd_zero_right]
theorem abs_nat (i : Int) : biD .abs [.int i] = some (.int (i.natAbs : Int)) := by
  simp only [biD]
  congr 2
  split <;> omega
theorem d_work (x : Str) : (Tr.work x).d = .tuple [.str "work", .str x] := rfl
theorem d_pick (b : Bool) (k : Nat) (xs : List Str) : (Tr.pick b k xs).d = .tuple [pkD b, .int k, .tuple (xs.map .str)] := rfl
theorem d_sum (ts : Ts) : (Tr.sum ts).d = .tuple [.str "sum", .tuple (ts.l.map tmD)] := by rw [Tr.d, Ts.ds_l]
theorem h_ww : cmpD .eq (.str "work") (.str "work") = some true := by decide +kernel
theorem h_sw : cmpD .eq (.str "sum") (.str "work") = some false := by decide +kernel
theorem h_pw (b : Bool) : cmpD .eq (pkD b) (.str "work") = some false := by cases b <;> decide +kernel
theorem h_ws : cmpD .eq (.str "work") (.str "sum") = some false := by decide +kernel
theorem h_ss : cmpD .eq (.str "sum") (.str "sum") = some true := by decide +kernel
theorem h_ps (b : Bool) : cmpD .eq (pkD b) (.str "sum") = some false := by cases b <;> decide +kernel
theorem h_pb (b : Bool) : cmpD .eq (pkD b) (.str "best") = some b := by cases b <;> decide +kernel
theorem h_nss : cmpD .ne (.str "sum") (.str "sum") = some false := by decide +kernel
theorem h_nps (b : Bool) : cmpD .ne (pkD b) (.str "sum") = some true := by cases b <;> decide +kernel
theorem h_nws : cmpD .ne (.str "work") (.str "sum") = some true := by decide +kernel
theorem o_ww : inD (.str "work") (.tuple [.str "work"]) = some true := by decide +kernel
theorem o_sw : inD (.str "sum") (.tuple [.str "work"]) = some false := by decide +kernel
theorem o_ss : inD (.str "sum") (.tuple [.str "sum"]) = some true := by decide +kernel
end Gd
namespace Gd
open PySem PySem.Spec L2
def Wl (w : List PyData) : Prop := ∃ a b c : Int, w = [.int a, .int b, .int c] ∧ 0 ≤ a
def Wat (l : Nat) (s : Sto) : Prop := ∃ w, Wl w ∧ s[l]? = some (.lst w)
def Drw (l : Nat) (s s' : Sto) : Prop := ∃ w, Wl w ∧ s' = s.set l (.lst w)
theorem Wat.lt {l : Nat} {s : Sto} (h : Wat l s) : l < s.length := by
  obtain ⟨w, _, e⟩ := h
  exact (List.getElem?_eq_some_iff.mp e).1
theorem Wat.refl {l : Nat} {s : Sto} (h : Wat l s) : Drw l s s := by
  obtain ⟨w, hw, e⟩ := h
  refine ⟨w, hw, ?_⟩
  obtain ⟨hl, e2⟩ := List.getElem?_eq_some_iff.mp e
  rw [← e2, List.set_getElem_self]
theorem Drw.at {l : Nat} {s s' : Sto} (h : Drw l s s') (hl : l < s.length) : Wat l s' := by
  obtain ⟨w, hw, rfl⟩ := h
  exact ⟨w, hw, by rw [List.getElem?_set_self hl]⟩
theorem Drw.trans {l : Nat} {s s1 s2 : Sto} (h : Drw l s s1) (h2 : Drw l s1 s2) : Drw l s s2 := by
  obtain ⟨w, _, rfl⟩ := h
  obtain ⟨u, hu, rfl⟩ := h2
  exact ⟨u, hu, by rw [List.set_set]⟩
theorem Drw.len {l : Nat} {s s1 : Sto} (h : Drw l s s1) : s1.length = s.length := by
  obtain ⟨w, _, rfl⟩ := h
  rw [List.length_set]
theorem Drw.take {l : Nat} {s s1 : Sto} (h : Drw l s s1) : s1.take s.length = s1 := by rw [← h.len, List.take_length]
theorem Wat.app {l : Nat} {s : Sto} (h : Wat l s) (r : Sto) : Wat l (s ++ r) := by
  have := h.lt
  obtain ⟨w, hw, e⟩ := h
  exact ⟨w, hw, by rw [List.getElem?_append_left this, e]⟩
theorem Drw.app {l : Nat} {s s' r : Sto} (h : Drw l (s ++ r) s') (hl : l < s.length) : ∃ s1, Drw l s s1 ∧ s' = s1 ++ r := by
  obtain ⟨w, hw, rfl⟩ := h
  exact ⟨s.set l (.lst w), ⟨w, hw, rfl⟩, by rw [List.set_append_left _ _ hl]⟩
theorem Drw.app_take {l : Nat} {s s1 r : Sto} (h : Drw l s s1) : (s1 ++ r).take s.length = s1 := by rw [← h.len, List.take_left]
theorem go_idxC {l : Nat} {w : List PyData} {s : Sto} (h : s[l]? = some (.lst w)) (i : Int) : go (opD idxD (.r l) (.d (.int i))) s = match idxD (.list w) (.int i) with
    | some z => .ok (.d z) s
    | none => .bad := by
  unfold opD
  simp only [go_bind, go_rdC h, go_rdD, bindR_ok, go_ofO]
  cases idxD (.list w) (.int i) <;> rfl
theorem go_opW {a : W} {x : PyData} {s : Sto} (h : go (rd a) s = .ok x s) (f : PyData → PyData → Option PyData) (y : PyData) : go (opD f a (.d y)) s = match f x y with
    | some z => .ok (.d z) s
    | none => .bad := by
  unfold opD
  simp only [go_bind, h, go_rdD, bindR_ok, go_ofO]
  cases f x y <;> rfl
theorem go_rdDc {l : Nat} {kvs : List (PyData × PyData)} {s : Sto} (h : s[l]? = some (.dct kvs)) : go (rd (.r l)) s = .ok (.dict kvs) s := by
  show (match s[l]? with
    | some (.lst xs) => Res.ok (PyData.list xs) s
    | some (.dct kvs) => .ok (.dict kvs) s
    | _ => .bad) = _
  rw [h]
theorem go_fzDc {l : Nat} {kvs : List (PyData × PyData)} {s : Sto} (h : s[l]? = some (.dct kvs)) : go (fzW (.r l)) s = .ok (.dict kvs) (s.set l .dead) := by
  show (match s[l]? with
    | some (.lst xs) => Res.ok (PyData.list xs) (s.set l .dead)
    | some (.dct kvs) => .ok (.dict kvs) (s.set l .dead)
    | _ => .bad) = _
  rw [h]
theorem go_newDc (s : Sto) : go newDc s = .ok s.length (s ++ [.dct []]) := rfl
theorem chkDc_s (w : Option W) (ρ : Rho) (i : Nat) : chkDc (w :: ρ) (i + 1) = chkDc ρ i := rfl
theorem modDc_s (w : Option W) (ρ : Rho) (i : Nat) (k : List (PyData × PyData) → Option (List (PyData × PyData))) : modDc (w :: ρ) (i + 1) k = modDc ρ i k := rfl
theorem go_chkDc {l : Nat} {kvs : List (PyData × PyData)} {s : Sto} (ρ : Rho) (h : s[l]? = some (.dct kvs)) : go (chkDc (some (.r l) :: ρ) 0) s = .ok () s := by
  show (match s[l]? with
    | some (.dct _) => Res.ok () s
    | _ => .bad) = _
  rw [h]
theorem go_modDc {l : Nat} {kvs : List (PyData × PyData)} {s : Sto} (ρ : Rho) (k : List (PyData × PyData) → Option (List (PyData × PyData))) (h : s[l]? = some (.dct kvs)) {ys : List (PyData × PyData)} (e : k kvs = some ys) : go (modDc (some (.r l) :: ρ) 0 k) s = .ok () (s.set l (.dct ys)) := by
  show (match s[l]? with
    | some (.dct xs) => (match k xs with
      | some ys => Res.ok () (s.set l (.dct ys))
      | none => .bad)
    | _ => .bad) = _
  rw [h]
  dsimp only
  rw [e]
theorem go_keyS (x : Str) (s : Sto) : go (keyM (.d (.str x))) s = .ok (.str x) s := rfl
theorem go_keyI (x : Int) (s : Sto) : go (keyM (.d (.int x))) s = .ok (.int x) s := rfl
theorem go_starT (xs : List PyData) (s : Sto) : go (starM (.d (.tuple xs))) s = .ok xs s := rfl
theorem go_starL (xs : List PyData) (s : Sto) : go (starM (.d (.list xs))) s = .ok xs s := rfl
theorem go_dctN {l : List (Str × Int)} (h : l.length ≤ 1000) (n : (l.map (·.1)).Nodup) (s : Sto) : go (dctN (.d (.list (l.map prD)))) s = .ok (l.map kvD) s := by
  unfold dctN
  simp only [go_bind, go_rdD, bindR_ok, sqD, go_ofS, dct_prs, okDct_prs h n, go_ite, go_pure, if_true]
theorem putB_ok {k y : PyData} {kvs : List (PyData × PyData)} (h : kvs.length < SZ) : putB k y kvs = some (putD k y kvs) := if_pos h
theorem go_dcomp_of {f : PyData → M (Option (PyData × PyData))} (g : Str → Int) {st : Sto} : ∀ (xs : List Str) (acc : List (Str × Int)) , (∀ x ∈ xs, ∀ kvs, go (f (.str x)) (st ++ [.dct kvs]) = .ok (some (.str x, .int (g x))) (st ++ [.dct kvs])) → (acc.map (·.1) ++ xs).Nodup → acc.length + xs.length ≤ SZ →
    go (dcompM st.length f (xs.map .str)) (st ++ [.dct (acc.map kvD)]) = .ok () (st ++ [.dct ((acc ++ xs.map fun x => (x, g x)).map kvD)])
  | [], acc, _, _, _ => by
    rw [List.map_nil, List.map_nil, List.append_nil]
    rfl
  | x :: r, acc, h, nd, hl => by
    rw [List.length_cons] at hl
    have e : go (dcompM st.length f ((x :: r).map .str)) (st ++ [.dct (acc.map kvD)]) = bindR (go (f (.str x)) (st ++ [.dct (acc.map kvD)])) fun o s' => match o with
      | some p => go (putC st.length p >>= fun _ => dcompM st.length f (r.map .str)) s'
      | none => go (dcompM st.length f (r.map .str)) s' := by
      show go (f (.str x) >>= fun o => match o with
        | some p => putC st.length p >>= fun _ => dcompM st.length f (r.map .str)
        | none => dcompM st.length f (r.map .str)) _ = _
      rw [go_bind]
      congr 1
      funext o s'
      cases o <;> rfl
    rw [e, h x List.mem_cons_self, bindR_ok]
    dsimp only
    rw [go_bind]
    have nk : (acc.map kvD).any (fun p => PyData.eqv p.1 (.str x)) = false := by
      rw [List.any_map]
      refine List.any_eq_false.mpr fun p hp => ?_
      show ¬ PyData.eqv (.str p.1) (.str x) = true
      rw [eqv_str, decide_eq_true_eq]
      intro z
      have := (List.nodup_append.mp nd).2.2 p.1 (List.mem_map_of_mem hp) x List.mem_cons_self
      exact this z
    have pc : go (putC st.length (.str x, .int (g x))) (st ++ [.dct (acc.map kvD)]) = .ok () (st ++ [.dct ((acc ++ [(x, g x)]).map kvD)]) := by
      show (match (st ++ [Bx.dct (acc.map kvD)])[st.length]? with
        | some (.dct kvs) => if kvs.length < SZ then Res.ok () ((st ++ [Bx.dct (acc.map kvD)]).set st.length (.dct (putD (.str x) (.int (g x)) kvs))) else .bad
        | _ => .bad) = _
      rw [get_last]
      dsimp only
      rw [if_pos (by rw [List.length_map]; omega), set_last]
      unfold putD
      rw [nk, if_neg Bool.false_ne_true, List.map_append]
      rfl
    rw [pc, bindR_ok, go_dcomp_of g r (acc ++ [(x, g x)]) (fun y hy => h y (List.mem_cons_of_mem _ hy)) (by rw [List.map_append, List.append_assoc]; exact nd) (by rw [List.length_append, List.length_singleton]; omega), List.append_assoc]
    rfl
theorem go_biC (b : Bi) {l : Nat} {w : List PyData} {s : Sto} (h : s[l]? = some (.lst w)) : go (biM b [.r l]) s = match biD b [.list w] with
    | some z => .ok (.d z) s
    | none => .bad := by
  show go ((rd (.r l) >>= fun x => rdL [] >>= fun xs => (M.pure (x :: xs) : M (List PyData))) >>= fun xs => ofO (biD b xs) >>= fun z => (M.pure (W.d z) : M W)) s = _
  simp only [go_bind, go_rdC h, bindR_ok, go_rdL_nil, go_pure, go_ofO]
  cases biD b [.list w] <;> rfl
theorem setK_0 (y a : PyData) (r : List PyData) : setK 0 y (a :: r) = some (.d .none, y :: r) := by
  unfold setK ixD
  rw [show (0 : Int) = ((0 : Nat) : Int) from rfl, ixN_nat, if_pos (by rw [List.length_cons]; omega)]
  rfl
theorem setK_1 (y a b : PyData) (r : List PyData) : setK 1 y (a :: b :: r) = some (.d .none, a :: y :: r) := by
  unfold setK ixD
  rw [show (1 : Int) = ((1 : Nat) : Int) from rfl, ixN_nat, if_pos (by rw [List.length_cons, List.length_cons]; omega)]
  rfl
theorem setK_2 (y a b c : PyData) (r : List PyData) : setK 2 y (a :: b :: c :: r) = some (.d .none, a :: b :: y :: r) := by
  unfold setK ixD
  rw [show (2 : Int) = ((2 : Nat) : Int) from rfl, ixN_nat, if_pos (by rw [List.length_cons, List.length_cons, List.length_cons]; omega)]
  rfl
theorem add_i (i j : Int) : binD .add (.int i) (.int j) = some (.int (i + j)) := rfl
theorem sub_i (i j : Int) : binD .sub (.int i) (.int j) = some (.int (i - j)) := rfl
theorem mul_r (i : Int) {j : Int} (h : small j = true) : binD .mul (.int i) (.int j) = some (.int (i * j)) := by
  simp only [binD, h, Bool.or_true, if_true]
theorem mul_l {i : Int} (h : small i = true) (j : Int) : binD .mul (.int i) (.int j) = some (.int (i * j)) := by
  simp only [binD, h, Bool.true_or, if_true]
theorem mod_i (i : Int) {j : Int} (h : j ≠ 0) : binD .mod (.int i) (.int j) = some (.int (i.fmod j)) := by
  simp only [binD, if_pos h]
theorem fdiv_i (i : Int) {j : Int} (h : j ≠ 0 ∧ j.natAbs < 1073741824) : binD .fdiv (.int i) (.int j) = some (.int (i.fdiv j)) := by
  simp only [binD, if_pos h]
theorem int_i (i : Int) : biD .int [.int i] = some (.int i) := rfl
theorem dm_i (i : Int) {j : Int} (h : 0 < j ∧ j < 1073741824) : biD .divmod [.int i, .int j] = some (.tuple [.int (i / j), .int (i % j)]) := by
  simp only [biD, if_pos h]
theorem sm_of {i : Int} (h1 : -18446744073709551616 < i) (h2 : i < 18446744073709551616) : small i = true := by
  unfold small
  simp only [Bool.and_eq_true, decide_eq_true_eq]
  omega
theorem go_bi2C (b : Bi) {l : Nat} {w : List PyData} {s : Sto} (h : s[l]? = some (.lst w)) (x : PyData) : go (biM b [.r l, .d x]) s = match biD b [.list w, x] with
    | some z => .ok (.d z) s
    | none => .bad := by
  show go ((rd (.r l) >>= fun x => rdL [.d _] >>= fun xs => (M.pure (x :: xs) : M (List PyData))) >>= fun xs => ofO (biD b xs) >>= fun z => (M.pure (W.d z) : M W)) s = _
  simp only [go_bind, go_rdC h, bindR_ok, go_rdL_cons, go_rdL_nil, go_pure, go_ofO]
  cases biD b [.list w, x] <;> rfl
theorem take_set (s : Sto) (l : Nat) (c : Bx) : List.take s.length (s.set l c) = s.set l c := by
  rw [← List.length_set (as := s) (i := l) (a := c), List.take_length]
theorem Drw.get {l : Nat} {s s1 : Sto} (h : Drw l s s1) (c : Bx) : (s1 ++ [c])[s.length]? = some c := by rw [← h.len, get_last]
theorem Drw.put {l : Nat} {s s1 : Sto} (h : Drw l s s1) (c d : Bx) : (s1 ++ [c]).set s.length d = s1 ++ [d] := by rw [← h.len, set_last]
theorem go_rngN {k : Nat} (h : k ≤ 1000) (s : Sto) : go (rng1M (.d (.int (k : Int)))) s = .ok ((List.range k).map fun i : Nat => .int (i : Int)) s := by
  have e : (2 : Int) ^ 62 = 4611686018427387904 := by decide
  rw [go_rng1 _ _ (by rw [e]; omega)]
  unfold rangeD
  congr 1
  rw [show ((k : Int) - 0).toNat = k by omega]
  refine List.map_congr_left fun i _ => ?_
  rw [Int.zero_add]
theorem sub_n {i j : Nat} (h : j ≤ i) : binD .sub (.int (i : Int)) (.int (j : Int)) = some (.int ((i - j : Nat) : Int)) := by
  simp only [binD]
  congr 2
  omega
theorem lt62 {i : Nat} (h : i ≤ 1000000) : 0 ≤ (i : Int) ∧ (i : Int) < 2 ^ 62 := by
  have e : (2 : Int) ^ 62 = 4611686018427387904 := by decide +kernel
  rw [e]; omega
theorem pop_at {zs : List PyData} {k : Int} (c : 0 ≤ k ∧ k < 2 ^ 62) {y : PyData} (h : zs[k.toNat]? = some y) : popK k zs = some (.d y, zs.eraseIdx k.toNat) := by
  unfold popK
  rw [if_pos c, h]
theorem pop_ok {zs : List PyData} {i : Nat} (h : i < zs.length) (hz : zs.length ≤ 1000) : popK (i : Int) zs = some (.d zs[i], zs.eraseIdx i) :=
  pop_at (lt62 (show i ≤ 1000000 by omega)) (List.getElem?_eq_getElem h)
theorem go_pop {l : Nat} {zs : List PyData} {s : Sto} (ρ : Rho) (g : s[l]? = some (.lst zs)) {i : Nat} (h : i < zs.length) (hz : zs.length ≤ 1000) : go (modL (some (.r l) :: ρ) 0 (popK (i : Int))) s = .ok (.d zs[i]) (s.set l (.lst (zs.eraseIdx i))) := by
  have e := pop_ok h hz
  generalize popK (i : Int) = k at e
  rw [go_mod ρ k g, e]
theorem get_set {l : Nat} {s : Sto} (hl : l < s.length) (c : Bx) : (s.set l c)[l]? = some c := List.getElem?_set_self hl
theorem gc_r (st : Sto) (c : Bx) : gcW st.length (.ok (.r st.length) (st ++ [c])) = .ok (.r st.length) (st ++ [c]) := by
  show (if st.length < st.length then _ else (match (st ++ [c])[st.length]? with
    | some c' => Res.ok (W.r st.length) ((st ++ [c]).take st.length ++ [c'])
    | none => .bad)) = _
  rw [if_neg (Nat.lt_irrefl _), get_last, List.take_left]
theorem cmp_eqSS (x y : Str) : cmpD .eq (.str x) (.str y) = some (decide (x = y)) := by
  rw [← eqv_str]; rfl
structure Rep (m w : Nat) (d : PyData) : Prop where
  sh : d.showable = true
  can : d.canLay0 = true
  dp : d.depth ≤ m
  short : d.intsShort 13 = true
  wt : d.weight ≤ w
theorem Rep.mono {m w m' w' : Nat} {d : PyData} (h : Rep m w d) (a : m ≤ m') (b : w ≤ w') : Rep m' w' d := ⟨h.sh, h.can, Nat.le_trans h.dp a, h.short, Nat.le_trans h.wt b⟩
theorem log_lt {n : Nat} (h : n < 10 ^ 12) : n.log2 < 40 := by
  by_cases z : n = 0
  · rw [z]; decide
  · exact (Nat.log2_lt z).mpr (Nat.lt_of_lt_of_le h (by decide))
theorem Rep.int {i : Int} (h : i.natAbs < 10 ^ 12) : Rep 0 40 (.int i) := ⟨by
  have := log_lt h
  simp only [PyData.showable, decide_eq_true_eq]
  omega, rfl, Nat.le_refl _, by
  simp only [PyData.intsShort, decide_eq_true_eq]
  exact PyData.shown_int_le h, by
  have := log_lt h
  simp only [PyData.weight]
  split <;> omega⟩
theorem rep_all {m w : Nat} : ∀ {xs : List PyData}, (∀ x ∈ xs, Rep m w x) → PyData.showableAll xs = true ∧ PyData.canLayAll0 xs = true ∧ PyData.depthAll xs ≤ m ∧ PyData.intsShortAll 13 xs = true ∧ PyData.weightAll xs ≤ xs.length * (w + 1)
  | [], _ => ⟨rfl, rfl, Nat.zero_le _, rfl, Nat.zero_le _⟩
  | x :: xs, h => by
    have a := h x List.mem_cons_self
    obtain ⟨b1, b2, b3, b4, b5⟩ := rep_all fun y hy => h y (List.mem_cons_of_mem _ hy)
    refine ⟨by rw [PyData.showableAll, a.sh, b1]; rfl, by rw [PyData.canLayAll0, a.can, b2]; rfl, by rw [PyData.depthAll]; exact Nat.max_le.mpr ⟨a.dp, b3⟩, by rw [PyData.intsShortAll, a.short, b4]; rfl, ?_⟩
    have := a.wt
    rw [PyData.weightAll, List.length_cons, Nat.succ_mul]
    omega
theorem Rep.tuple {m w : Nat} {xs : List PyData} (h : ∀ x ∈ xs, Rep m w x) : Rep (m + 1) (xs.length * (w + 1)) (.tuple xs) := by
  obtain ⟨b1, b2, b3, b4, b5⟩ := rep_all h
  exact ⟨by rw [PyData.showable, b1], by rw [PyData.canLay0, b2], by rw [PyData.depth]; omega, by rw [PyData.intsShort, b4], by rw [PyData.weight]; exact b5⟩
theorem Rep.list {m w : Nat} {xs : List PyData} (h : ∀ x ∈ xs, Rep m w x) : Rep (m + 1) (xs.length * (w + 1)) (.list xs) := by
  obtain ⟨b1, b2, b3, b4, b5⟩ := rep_all h
  exact ⟨by rw [PyData.showable, b1], by rw [PyData.canLay0, b2], by rw [PyData.depth]; omega, by rw [PyData.intsShort, b4], by rw [PyData.weight]; exact b5⟩
theorem Rep.repr {m w : Nat} {d : PyData} (h : Rep m w d) (a : m ≤ 64) (b : w ≤ 1048576) : biD .repr [d] = some (.str d.shown) := by
  have e := PyData.shown_fits (B := 13) (by decide) (Nat.le_refl _) (PyData.leavesShort_of_canLay0 13 d h.can h.short) (Nat.le_trans h.wt (Nat.le_trans b (by decide)))
  rw [← SZ_eq] at e
  simp only [biD, h.sh, h.can, decide_eq_true e, decide_eq_true (Nat.le_trans h.dp a), Bool.and_self, if_true]
theorem idx_str {z : Str} (hz : z.length ≤ SZ) {k : Nat} {c : Nat} (h : z.cps.toList[k]? = some c) : idxD (.str z) (.int (k : Int)) = some (.str ⟨#[c]⟩) := by
  obtain ⟨hk, _⟩ := List.getElem?_eq_some_iff.mp h
  have hk : k < z.length := by
    rw [Array.length_toList] at hk
    exact hk
  simp only [idxD, if_pos hz, ixN_nat, if_pos hk, Option.bind_some, h, Option.map_some]
theorem str_app (x y : Str) : (x ++ y).cps.toList = x.cps.toList ++ y.cps.toList := by
  show (x.cps ++ y.cps).toList = _
  rw [Array.toList_append]
theorem str_len (x : Str) : x.length = x.cps.toList.length := rfl
theorem cat_str {x y : Str} (h : x.length + y.length ≤ SZ) : binD .add (.str x) (.str y) = some (.str (x ++ y)) := if_pos h
theorem slc_str {z : Str} (hz : z.length ≤ SZ) (k : Nat) : slcD none (some (k : Int)) (.str z) = some (.str ⟨(z.cps.toList.take k).toArray⟩) := by
  show (if z.length ≤ SZ then some (PyData.str ⟨(cutD z.cps.toList none (some (k : Int))).toArray⟩) else none) = _
  rw [if_pos hz, cut_hi]
theorem go_listS {z : Str} (hz : z.length ≤ SZ) : listM [.d (.str z)] = M.pure ((signs z).map .str) := by
  show (if z.length ≤ SZ then M.pure ((signs z).map PyData.str) else M.bad : M (List PyData)) = _
  rw [if_pos hz]
theorem list_T (xs : List PyData) : listM [.d (.tuple xs)] = M.pure xs := rfl
theorem list_L (xs : List PyData) : listM [.d (.list xs)] = M.pure xs := rfl
end Gd
namespace Gd
open PySem PySem.Spec L2
theorem dn_bump {l : List Int} (h : l.Pairwise fun a b => b ≤ a) {v : Int} (hv : v ∈ l) : l[l.countP fun x => decide (v < x)]? = some v ∧ (l.set (l.countP fun x => decide (v < x)) (v + 1)).Pairwise fun a b => b ≤ a := by
  induction l with
  | nil => cases hv
  | cons a l ih =>
    obtain ⟨h1, h2⟩ := List.pairwise_cons.mp h
    rw [List.countP_cons]
    by_cases z : v < a
    · rw [if_pos (decide_eq_true z)]
      have hv' : v ∈ l := by
        rcases List.mem_cons.mp hv with q | q
        · omega
        · exact q
      obtain ⟨i1, i2⟩ := ih h2 hv'
      refine ⟨by rw [List.getElem?_cons_succ]; exact i1, ?_⟩
      rw [List.set_cons_succ, List.pairwise_cons]
      refine ⟨fun b hb => ?_, i2⟩
      rcases List.mem_or_eq_of_mem_set hb with q | q
      · exact h1 b q
      · omega
    · have c0 : l.countP (fun x => decide (v < x)) = 0 := by
        rw [List.countP_eq_zero]
        intro x hx q
        have := h1 x hx
        simp only [decide_eq_true_eq] at q
        omega
      have ev : a = v := by
        rcases List.mem_cons.mp hv with q | q
        · exact q.symm
        · have := h1 v q
          omega
      rw [if_neg (by simp [z]), c0, ev]
      refine ⟨rfl, ?_⟩
      rw [List.set_cons_zero, List.pairwise_cons]
      refine ⟨fun b hb => ?_, h2⟩
      have := h1 b hb
      omega
theorem bump_perm {l : List Int} {p : Nat} {v u : Int} (h : l[p]? = some v) : (u :: l).Perm (v :: l.set p u) := by
  induction l generalizing p with
  | nil => cases h
  | cons a l ih =>
    cases p with
    | zero =>
      cases h
      rw [List.set_cons_zero]
      exact List.Perm.swap _ _ _
    | succ p =>
      rw [List.getElem?_cons_succ] at h
      rw [List.set_cons_succ]
      have := ih h
      exact (List.Perm.swap a u l).trans ((this.cons a).trans (List.Perm.swap v a _))
theorem row_bump {xs : List Str} (hn : xs.Nodup) {w : Str} (hw : w ∈ xs) {f f' : Str → Int} (h1 : f' w = f w + 1) (h2 : ∀ x, x ≠ w → f' x = f x) :
    dnI (xs.map f') = (dnI (xs.map f)).set (xs.countP fun x => decide (f w < f x)) (f w + 1) ∧ (xs.countP fun x => decide (f w < f x)) < xs.length := by
  have pf := dn_perm (xs.map f)
  have hv : f w ∈ dnI (xs.map f) := pf.mem_iff.mpr (List.mem_map_of_mem hw)
  obtain ⟨b1, b2⟩ := dn_bump (dn_pw (xs.map f)) hv
  have ec : (dnI (xs.map f)).countP (fun x => decide (f w < x)) = xs.countP fun x => decide (f w < f x) := by
    rw [pf.countP_eq, List.countP_map]; rfl
  rw [ec] at b1 b2
  obtain ⟨hp, _⟩ := List.getElem?_eq_some_iff.mp b1
  rw [dn_len, List.length_map] at hp
  refine ⟨?_, hp⟩
  refine List.Perm.eq_of_pairwise (le := fun a b : Int => b ≤ a) (fun a b _ _ q1 q2 => Int.le_antisymm q2 q1) (dn_pw _) b2 ?_
  have px := List.perm_cons_erase hw
  have p1 : (xs.map f').Perm ((f w + 1) :: (xs.erase w).map f) := by
    refine (px.map f').trans ?_
    rw [List.map_cons, h1, List.map_congr_left (g := f) fun x hx => h2 x ?_]
    intro z
    rw [z] at hx
    exact (List.Nodup.not_mem_erase hn) hx
  have p2 : (dnI (xs.map f)).Perm (f w :: (xs.erase w).map f) := pf.trans (px.map f)
  have p3 := bump_perm (u := f w + 1) b1
  have p4 : ((f w + 1) :: f w :: (xs.erase w).map f).Perm (f w :: (dnI (xs.map f)).set (xs.countP fun x => decide (f w < f x)) (f w + 1)) := (p2.cons _).symm.trans p3
  have p5 := ((List.Perm.swap (f w + 1) (f w) ((xs.erase w).map f)).trans p4).cons_inv
  exact (dn_perm _).trans (p1.trans p5)
theorem row_same {xs : List Str} {w : Str} (hw : w ∉ xs) {f f' : Str → Int} (h2 : ∀ x, x ≠ w → f' x = f x) : xs.map f' = xs.map f := List.map_congr_left fun x hx => h2 x fun z => hw (z ▸ hx)
def indS (s : Str → Bool) (x : Str) : Int := if s x then 1 else 0
theorem pick_gain (b : Bool) (k : Nat) (row : List Int) (p : Nat) (v : Int) (h : row[p]? = some v) (hk : 1 ≤ k) : pickV b k (row.set p (v + 1)) - pickV b k row = if b then (if p < k then 1 else 0) else if p = k - 1 then 1 else 0 := by
  obtain ⟨hp, hv⟩ := List.getElem?_eq_some_iff.mp h
  cases b with
  | false =>
    simp only [pickV, Bool.false_eq_true, if_false, List.getD_eq_getElem?_getD]
    by_cases z : p = k - 1
    · rw [if_pos z, ← z, List.getElem?_set_self hp, h]
      simp only [Option.getD_some]
      omega
    · rw [if_neg z, List.getElem?_set_ne z]
      omega
  | true =>
    simp only [pickV, if_true]
    by_cases z : p < k
    · rw [if_pos z]
      have e : (row.take k)[p]? = some v := by rw [List.getElem?_take_of_lt z, h]
      have p1 := (bump_perm (u := v + 1) e)
      rw [List.take_set]
      have s : ∀ {l m : List Int}, l.Perm m → l.sum = m.sum := fun {l m} q => by
        induction q with
        | nil => rfl
        | cons x _ ih => rw [List.sum_cons, List.sum_cons, ih]
        | swap x y l => simp only [List.sum_cons]; omega
        | trans _ _ i1 i2 => exact i1.trans i2
      have := s p1
      rw [List.sum_cons, List.sum_cons] at this
      omega
    · rw [if_neg z, List.take_set_of_le (by omega)]
      omega
theorem Tr.gain {ns : List Str} {w : Str} {f f' : Str → Int} (h1 : f' w = f w + 1) (h2 : ∀ x, x ≠ w → f' x = f x) {s s' : Str → Bool} (hs' : ∀ x, x ≠ w → s' x = s x) (hw : s w = false) (hw' : s' w = true) : ∀ (t : Tr) {lv : Nat}, t.Ok ns lv → (∀ x ∈ t.works, x ≠ w → s x = decide (f w < f x)) → t.val f' - t.val f = t.val (indS s') - t.val (indS s) := by
  have i1 : indS s' w = indS s w + 1 := by simp [indS, hw, hw']
  have i2 : ∀ x, x ≠ w → indS s' x = indS s x := fun x hx => by simp [indS, hs' x hx]
  refine Tr.ind (fun x lv h hs => ?_) (fun b k xs lv h hs => ?_) (fun ts ih lv h hs => ?_)
  · simp only [Tr.val]
    by_cases z : x = w
    · rw [z, h1, i1]; omega
    · rw [h2 x z, i2 x z]; omega
  · obtain ⟨q1, q2, q3, q4, q5⟩ := h
    simp only [Tr.val]
    by_cases z : w ∈ xs
    · have nd := lt_nodup q2
      obtain ⟨r1, r2⟩ := row_bump nd z h1 h2
      obtain ⟨r3, r4⟩ := row_bump nd z i1 i2
      have ec : (xs.countP fun x => decide (f w < f x)) = xs.countP fun x => decide (indS s w < indS s x) := by
        refine List.countP_congr fun x hx => ?_
        by_cases e : x = w
        · rw [e]; simp
        · simp only [indS, hw, hs x hx e]
          by_cases q : f w < f x
          · simp [q]
          · simp [q]
      have g1 : (dnI (xs.map f))[xs.countP fun x => decide (f w < f x)]? = some (f w) := by
        have := (dn_bump (dn_pw (xs.map f)) ((dn_perm _).mem_iff.mpr (List.mem_map_of_mem z))).1
        rw [(dn_perm _).countP_eq, List.countP_map] at this
        exact this
      have g2 : (dnI (xs.map (indS s)))[xs.countP fun x => decide (indS s w < indS s x)]? = some (indS s w) := by
        have := (dn_bump (dn_pw (xs.map (indS s))) ((dn_perm _).mem_iff.mpr (List.mem_map_of_mem z))).1
        rw [(dn_perm _).countP_eq, List.countP_map] at this
        exact this
      rw [r1, r3, pick_gain b k _ _ _ g1 q4, pick_gain b k _ _ _ g2 q4, ec]
    · rw [row_same z h2, row_same z i2]; omega
  · rw [Tr.val, Tr.val, Tr.val, Tr.val, Ts.val_l, Ts.val_l, Ts.val_l, Ts.val_l]
    have key : ∀ l : List (Int × Tr), (∀ p ∈ l, p.2.val f' - p.2.val f = p.2.val (indS s') - p.2.val (indS s)) → (l.map fun p => p.1 * p.2.val f').sum - (l.map fun p => p.1 * p.2.val f).sum = (l.map fun p => p.1 * p.2.val (indS s')).sum - (l.map fun p => p.1 * p.2.val (indS s)).sum := by
      intro l
      induction l with
      | nil => intro _; rfl
      | cons p l ih =>
        intro h
        have a := h p List.mem_cons_self
        have b := ih fun q hq => h q (List.mem_cons_of_mem _ hq)
        simp only [List.map_cons, List.sum_cons]
        have c := congrArg (p.1 * ·) a
        simp only [Int.mul_sub] at c
        omega
    exact key ts.l fun p hp => ih p hp ((Ts.ok_l ts).mp h.2.2.2 p hp).2 fun x hx => hs x (by rw [Tr.works, Ts.works_l, List.mem_flatMap]; exact ⟨p, hp, hx⟩)
theorem Tr.val_bdB {ns : List Str} (hn : ns.length ≤ 9) {B : Nat} {f : Str → Int} (hf : ∀ x ∈ ns, (f x).natAbs ≤ B) : ∀ (t : Tr) {lv : Nat}, t.Ok ns lv → (t.val f).natAbs * 100 ≤ B * 900 ^ lv := by
  refine Tr.ind (fun x lv h => ?_) (fun b k xs lv h => ?_) (fun ts ih lv h => ?_)
  · obtain ⟨h1, h2⟩ := h
    have := hf x h1
    have p9 := Nat.mul_le_mul_left B (Nat.pow_le_pow_right (n := 900) (by decide) h2)
    simp only [Tr.val]; omega
  · obtain ⟨h1, h2, h3, h4, h5⟩ := h
    have p9 := Nat.mul_le_mul_left B (Nat.pow_le_pow_right (n := 900) (by decide) h1)
    have hl : xs.length ≤ ns.length := nodup_le (lt_nodup h2) h3
    have hm : ∀ v ∈ dnI (xs.map f), v.natAbs ≤ B := fun v hv => by
      obtain ⟨x, hx, e⟩ := List.mem_map.mp ((dn_perm _).mem_iff.mp hv)
      rw [← e]; exact hf x (h3 x hx)
    simp only [Tr.val, pickV]
    split
    · have s := sum_bd B ((dnI (xs.map f)).take k) fun v hv => hm v (List.mem_of_mem_take hv)
      rw [List.length_take] at s
      have q : min k (dnI (xs.map f)).length * B ≤ 9 * B := Nat.mul_le_mul_right _ (by rw [dn_len, List.length_map]; omega)
      omega
    · rw [List.getD_eq_getElem?_getD]
      cases e : (dnI (xs.map f))[k - 1]? with
      | none => simp
      | some v =>
        have := hm v (List.mem_of_getElem? e)
        simp only [Option.getD_some]; omega
  · obtain ⟨h1, h2, h3, h4⟩ := h
    obtain ⟨m, rfl⟩ : ∃ m, lv = m + 1 := ⟨lv - 1, by omega⟩
    have key : ∀ l : List (Int × Tr), (∀ p ∈ l, (p.1 * p.2.val f).natAbs ≤ B * 900 ^ m) → ((l.map fun p : Int × Tr => p.1 * p.2.val f).sum).natAbs ≤ l.length * (B * 900 ^ m) := fun l h => by
      have := sum_bd (B * 900 ^ m) (l.map fun p : Int × Tr => p.1 * p.2.val f) fun v hv => by
        obtain ⟨p, hp, e⟩ := List.mem_map.mp hv
        rw [← e]; exact h p hp
      rwa [List.length_map] at this
    have s := key ts.l fun p hp => by
      obtain ⟨w, o⟩ := (Ts.ok_l ts).mp h4 p hp
      have b := ih p hp o
      rw [Int.natAbs_mul]
      unfold Wt at w
      have := Nat.mul_le_mul_right (p.2.val f).natAbs (show p.1.natAbs ≤ 100 by omega)
      simp only [Nat.add_sub_cancel] at b
      omega
    rw [Tr.val, Ts.val_l, Nat.pow_succ]
    have := Nat.mul_le_mul_right (B * 900 ^ m) h3
    have e : B * (900 ^ m * 900) = 900 * (B * 900 ^ m) := by rw [← Nat.mul_assoc, Nat.mul_comm]
    rw [e]
    omega
theorem go_comp_fl {β : Type} {f : PyData → M (Option PyData)} (i j : β → PyData) (p : β → Bool) {s : Sto} (xs : List β) (h : ∀ b ∈ xs, go (f (i b)) s = .ok (if p b then some (j b) else none) s) (hl : xs.length ≤ SZ) : go (compM f (xs.map i) []) s = .ok ((xs.filter p).map j) s := by
  have key : ∀ (xs : List β) (acc : List PyData), (∀ b ∈ xs, go (f (i b)) s = .ok (if p b then some (j b) else none) s) → acc.length + xs.length ≤ SZ → go (compM f (xs.map i) acc) s = .ok (acc ++ (xs.filter p).map j) s := by
    intro xs
    induction xs with
    | nil => intro acc _ _; rw [List.map_nil, go_comp_nil, List.filter_nil, List.map_nil, List.append_nil]
    | cons x r ih =>
      intro acc h hl
      rw [List.length_cons] at hl
      rw [List.map_cons, go_comp_cons, h x List.mem_cons_self, bindR_ok]
      cases e : p x with
      | true =>
        rw [if_pos rfl]
        dsimp only
        rw [if_pos (by omega), ih _ (fun y hy => h y (List.mem_cons_of_mem _ hy)) (by rw [List.length_append, List.length_singleton]; omega), List.filter_cons_of_pos (by rw [e]), List.map_cons, List.append_assoc]
        rfl
      | false =>
        rw [if_neg Bool.false_ne_true]
        dsimp only
        rw [ih _ (fun y hy => h y (List.mem_cons_of_mem _ hy)) (by omega), List.filter_cons_of_neg (by rw [e]; exact Bool.false_ne_true)]
  have := key xs [] h (by rw [List.length_nil]; omega)
  rwa [List.nil_append] at this
theorem cmp_neSS (x y : Str) : cmpD .ne (.str x) (.str y) = some (!decide (x = y)) := by
  rw [← eqv_str]; rfl
theorem go_fzLd : ∀ (ds : List PyData) (s : Sto), go (fzL (ds.map W.d)) s = .ok ds s
  | [], _ => rfl
  | x :: r, s => by rw [List.map_cons, go_fzL_cons, go_fzLd r s, bindR_ok]
theorem go_dcomp0 {f : PyData → M (Option (PyData × PyData))} (g : Str → Int) {st : Sto} (xs : List Str) (h : ∀ x ∈ xs, ∀ kvs, go (f (.str x)) (st ++ [.dct kvs]) = .ok (some (.str x, .int (g x))) (st ++ [.dct kvs])) (nd : xs.Nodup) (hl : xs.length ≤ SZ) :
    go (dcompM st.length f (xs.map .str)) (st ++ [.dct []]) = .ok () (st ++ [.dct ((xs.map fun x => (x, g x)).map kvD)]) := go_dcomp_of g xs [] h nd (by rw [List.length_nil]; omega)
theorem fst_pair (g : Str → Int) (xs : List Str) : (xs.map fun x => (x, g x)).map (·.1) = xs := by rw [List.map_map]; exact List.map_id _
theorem lookup_pair (g : Str → Int) {x : Str} : ∀ {xs : List Str}, x ∈ xs → List.lookup x (xs.map fun x => (x, g x)) = some (g x)
  | [], h => nomatch h
  | y :: r, h => by
    rw [List.map_cons, List.lookup_cons]
    by_cases e : x = y
    · subst e; simp
    · have : (x == y) = false := by simpa using e
      rw [this]
      exact lookup_pair g ((List.mem_cons.mp h).resolve_left e)
theorem get_pair (g : Str → Int) {x : Str} {xs : List Str} (h : x ∈ xs) : getKey (.str x) ((xs.map fun x => (x, g x)).map kvD) = some (.int (g x)) := by
  rw [get_prs, lookup_pair g h]; rfl
theorem get_put (x w : Str) (v : Int) : ∀ {ps : List (Str × Int)}, w ∈ ps.map (·.1) → getKey (.str x) (putD (.str w) (.int v) (ps.map kvD)) = if x = w then some (.int v) else getKey (.str x) (ps.map kvD) := by
  have key : ∀ ps : List (Str × Int), getKey (.str x) ((ps.map kvD).map fun p => if PyData.eqv p.1 (.str w) then (p.1, .int v) else p) = if x = w then (if w ∈ ps.map (·.1) then some (.int v) else none) else getKey (.str x) (ps.map kvD) := by
    intro ps
    induction ps with
    | nil => simp [getKey]
    | cons p ps ih =>
      rw [List.map_cons, List.map_cons]
      have e : PyData.eqv (kvD p).1 (.str w) = decide (p.1 = w) := eqv_str _ _
      rw [e]
      by_cases z : p.1 = w
      · rw [if_pos (decide_eq_true z), getKey]
        have e2 : PyData.eqv (kvD p).1 (.str x) = decide (p.1 = x) := eqv_str _ _
        rw [e2, z]
        by_cases q : x = w
        · subst q
          simp [z]
        · have : ¬ w = x := fun r => q r.symm
          rw [if_neg (by simp [this]), ih, if_neg q, if_neg q]
          show _ = if PyData.eqv (.str p.1) (.str x) then _ else _
          rw [eqv_str, z, if_neg (by simp [this])]
      · rw [if_neg (by simp [z]), getKey]
        have e2 : PyData.eqv (kvD p).1 (.str x) = decide (p.1 = x) := eqv_str _ _
        have e3 : getKey (.str x) (kvD p :: ps.map kvD) = if decide (p.1 = x) then some (kvD p).2 else getKey (.str x) (ps.map kvD) := by
          rw [← e2]; rfl
        rw [e2, ih]
        by_cases q : x = w
        · subst q
          simp only [if_pos rfl, if_neg (show ¬ decide (p.1 = x) = true by simp [z]), List.map_cons, List.mem_cons]
          by_cases m : x ∈ ps.map (·.1)
          · simp [m]
          · have : ¬ x = p.1 := fun r => z r.symm
            simp [m, this]
        · rw [if_neg q, if_neg q, e3]
  intro ps hw
  have a : (ps.map kvD).any (fun p => PyData.eqv p.1 (.str w)) = true := by
    obtain ⟨p, hp, e⟩ := List.mem_map.mp hw
    rw [List.any_eq_true]
    refine ⟨kvD p, List.mem_map_of_mem hp, ?_⟩
    show PyData.eqv (.str p.1) (.str w) = true
    rw [eqv_str, decide_eq_true e]
  unfold putD
  rw [if_pos a, key, if_pos hw]
theorem go_cmpR (o : COp) {m : Nat} {ys : List PyData} {s : Sto} (g : s[m]? = some (.lst ys)) (x : PyData) : go (cmpM o (.d x) (.r m)) s = match cmpD o x (.list ys) with
    | some z => .ok (.d (.bool z)) s
    | none => .bad := by
  unfold cmpM cmpB
  simp only [go_bind, go_rdD, go_rdC g, bindR_ok, go_ofO]
  cases cmpD o x (.list ys) <;> rfl
theorem go_cmpLt (o : COp) {m : Nat} {ys : List PyData} {s : Sto} (g : s[m]? = some (.lst ys)) (x : PyData) : go (cmpM o (.r m) (.d x)) s = match cmpD o (.list ys) x with
    | some z => .ok (.d (.bool z)) s
    | none => .bad := by
  unfold cmpM cmpB
  simp only [go_bind, go_rdD, go_rdC g, bindR_ok, go_ofO]
  cases cmpD o (.list ys) x <;> rfl
theorem mul_txt {x : Str} {k : Int} (h : 0 ≤ k ∧ k ≤ 1000 ∧ x.length ≤ 1000) : binD .mul (.str x) (.int k) = some (.str (Txt.mul x k)) := by
  simp only [binD, if_pos h]
theorem two_0 (st : Sto) (c d : Bx) : (st ++ [c, d])[st.length]? = some c := by simp
theorem two_1 (st : Sto) (c d : Bx) : (st ++ [c, d])[st.length + 1]? = some d := by simp
theorem two_s0 (st : Sto) (c d e : Bx) : (st ++ [c, d]).set st.length e = st ++ [e, d] := by simp
theorem two_s1 (st : Sto) (c d e : Bx) : (st ++ [c, d]).set (st.length + 1) e = st ++ [c, e] := by
  rw [List.set_append_right _ _ (by omega)]
  simp
theorem Drw.two_0 {l : Nat} {s s1 : Sto} (h : Drw l s s1) (c d : Bx) : (s1 ++ [c, d])[s.length]? = some c := by rw [← h.len, Gd.two_0]
theorem Drw.two_1 {l : Nat} {s s1 : Sto} (h : Drw l s s1) (c d : Bx) : (s1 ++ [c, d])[s.length + 1]? = some d := by rw [← h.len, Gd.two_1]
theorem Drw.two_s0 {l : Nat} {s s1 : Sto} (h : Drw l s s1) (c d e : Bx) : (s1 ++ [c, d]).set s.length e = s1 ++ [e, d] := by rw [← h.len, Gd.two_s0]
theorem Drw.two_s1 {l : Nat} {s s1 : Sto} (h : Drw l s s1) (c d e : Bx) : (s1 ++ [c, d]).set (s.length + 1) e = s1 ++ [c, e] := by rw [← h.len, Gd.two_s1]
def Tr.leaf : Tr → Bool
  | .sum _ => false
  | _ => true
end Gd
namespace Gd
open PySem PySem.Spec L2
def Dps (l : Nat) (s s' : Sto) : Prop := ∃ s1 r, Drw l s s1 ∧ s' = s1 ++ r
theorem Dps.of {l : Nat} {s s' : Sto} (h : Drw l s s') : Dps l s s' := ⟨s', [], h, by rw [List.append_nil]⟩
theorem Dps.len {l : Nat} {s s' : Sto} (h : Dps l s s') : s.length ≤ s'.length := by
  obtain ⟨s1, r, d, rfl⟩ := h
  rw [List.length_append, d.len]; omega
theorem Dps.at {l : Nat} {s s' : Sto} (h : Dps l s s') (hl : l < s.length) : Wat l s' := by
  obtain ⟨s1, r, d, rfl⟩ := h
  exact (d.at hl).app r
theorem Dps.drw {l : Nat} {s s1 s2 : Sto} (a : Dps l s s1) (hl : l < s.length) (b : Drw l s1 s2) : Dps l s s2 := by
  obtain ⟨u, r, d, rfl⟩ := a
  obtain ⟨u3, d3, rfl⟩ := b.app (by rw [d.len]; exact hl)
  exact ⟨u3, r, d.trans d3, rfl⟩
theorem Dps.app {l : Nat} {s s' : Sto} (h : Dps l s s') (r : Sto) : Dps l s (s' ++ r) := by
  obtain ⟨s1, r0, d, rfl⟩ := h
  exact ⟨s1, r0 ++ r, d, by rw [List.append_assoc]⟩
theorem Dps.set {l m : Nat} {s s' : Sto} (h : Dps l s s') (hm : s.length ≤ m) (c : Bx) : Dps l s (s'.set m c) := by
  obtain ⟨s1, r0, d, rfl⟩ := h
  exact ⟨s1, _, d, List.set_append_right _ _ (by rw [d.len]; exact hm)⟩
theorem Dps.trans {l : Nat} {s s1 s2 : Sto} (a : Dps l s s1) (hl : l < s.length) (b : Dps l s1 s2) : Dps l s s2 := by
  obtain ⟨u, r, d, rfl⟩ := b
  exact (a.drw hl d).app r
theorem Dps.take {l : Nat} {s s' : Sto} (h : Dps l s s') : Drw l s (s'.take s.length) := by
  obtain ⟨s1, r, d, rfl⟩ := h
  rw [d.app_take]; exact d
theorem Drw.keep {l m : Nat} {s s' : Sto} (h : Drw l s s') (hm : l ≠ m) : s'[m]? = s[m]? := by
  obtain ⟨w, _, rfl⟩ := h
  rw [List.getElem?_set_ne hm]
theorem get_app {s r : Sto} {m : Nat} {c : Bx} (h : s[m]? = some c) : (s ++ r)[m]? = some c := by
  rw [List.getElem?_append_left (List.getElem?_eq_some_iff.mp h).1, h]
theorem get_lt {s : Sto} {m : Nat} {c : Bx} (h : s[m]? = some c) : m < s.length := (List.getElem?_eq_some_iff.mp h).1
theorem Wat.set {l m : Nat} {s : Sto} (h : Wat l s) (hm : l ≠ m) (c : Bx) : Wat l (s.set m c) := by
  obtain ⟨w, hw, e⟩ := h
  exact ⟨w, hw, by rw [List.getElem?_set_ne (Ne.symm hm)]; exact e⟩
theorem Tr.shp {ns : List Str} (hn : ∀ x ∈ ns, Nm x) : ∀ (t : Tr) {lv : Nat}, t.Ok ns lv → Shp (3 * lv) t.d := by
  have sw : PyData.strOk (Str.ofString "work") = true := by decide +kernel
  have ss : PyData.strOk (Str.ofString "sum") = true := by decide +kernel
  have sb : PyData.strOk (Str.ofString "best") = true := by decide +kernel
  have sr : PyData.strOk (Str.ofString "rank") = true := by decide +kernel
  refine Tr.ind (fun x lv h => ?_) (fun b k xs lv h => ?_) (fun ts ih lv h => ?_)
  · refine Shp.mono (m := 1) (Shp.tuple fun d hd => ?_) (by have := h.2; omega)
    simp only [List.mem_cons, List.not_mem_nil, or_false] at hd
    rcases hd with rfl | rfl
    · exact Shp.str 0 sw
    · exact Shp.str 0 (hn x h.1).strOk
  · obtain ⟨h1, h2, h3, h4, h5⟩ := h
    refine Shp.mono (m := 2) (Shp.tuple fun d hd => ?_) (by omega)
    simp only [List.mem_cons, List.not_mem_nil, or_false] at hd
    rcases hd with rfl | rfl | rfl
    · cases b
      · exact Shp.str 1 sr
      · exact Shp.str 1 sb
    · exact Shp.int 1 _
    · exact Shp.tuple fun d hd => by
        obtain ⟨x, hx, e⟩ := List.mem_map.mp hd
        exact e ▸ Shp.str 0 (hn x (h3 x hx)).strOk
  · obtain ⟨h1, h2, h3, h4⟩ := h
    obtain ⟨m, rfl⟩ : ∃ m, lv = m + 1 := ⟨lv - 1, by omega⟩
    rw [d_sum]
    refine Shp.mono (m := 3 * m + 2 + 1) (Shp.tuple fun d hd => ?_) (by omega)
    simp only [List.mem_cons, List.not_mem_nil, or_false] at hd
    rcases hd with rfl | rfl
    · exact (Shp.str 0 ss).mono (by omega)
    · refine Shp.tuple (m := 3 * m + 1) fun d hd => ?_
      obtain ⟨p, hp, e⟩ := List.mem_map.mp hd
      rw [← e]
      refine Shp.tuple (m := 3 * m) fun d hd => ?_
      simp only [List.mem_cons, List.not_mem_nil, or_false] at hd
      rcases hd with rfl | rfl
      · exact Shp.int _ _
      · exact ih p hp ((Ts.ok_l ts).mp h4 p hp).2
theorem tm_shp {ns : List Str} (hn : ∀ x ∈ ns, Nm x) {p : Int × Tr} {lv : Nat} (h : p.2.Ok ns lv) : Shp (3 * lv + 1) (tmD p) := Shp.tuple fun d hd => by
  simp only [List.mem_cons, List.not_mem_nil, or_false] at hd
  rcases hd with rfl | rfl
  · exact Shp.int _ _
  · exact Tr.shp hn _ h
theorem cmp_neL {m : Nat} {xs : List PyData} (h : ∀ x ∈ xs, Shp m x) (l : m ≤ 60) : cmpD .ne (.list xs) (.list []) = some (!decide (xs = [])) := by
  unfold cmpD
  dsimp only
  rw [(Shp.list h).shaped (by omega)]
  cases xs with
  | nil => rfl
  | cons x r => rfl
theorem Tr.Ok.mono {ns : List Str} : ∀ (t : Tr) {lv k : Nat}, t.Ok ns lv → lv ≤ k → t.Ok ns k := by
  refine Tr.ind (fun x lv k h l => ⟨h.1, Nat.le_trans h.2 l⟩) (fun b n xs lv k h l => ⟨Nat.le_trans h.1 l, h.2⟩) (fun ts ih lv k h l => ?_)
  obtain ⟨h1, h2, h3, h4⟩ := h
  refine ⟨by omega, h2, h3, (Ts.ok_l ts).mpr fun p hp => ?_⟩
  obtain ⟨a, b⟩ := (Ts.ok_l ts).mp h4 p hp
  exact ⟨a, ih p hp b (by omega)⟩
end Gd
namespace Gk
open PySem PySem.Spec L2 Gd
abbrev F_is_whole : Nat := 0
abbrev F_is_number : Nat := 1
abbrev F_greatest_divisor : Nat := 2
abbrev F_lowest : Nat := 3
abbrev F_is_tuple_of : Nat := 4
abbrev F_is_ascending : Nat := 5
abbrev F_wrong_at : Nat := 6
abbrev F_is_letters : Nat := 7
abbrev F_is_name : Nat := 8
abbrev F_is_one_of : Nat := 9
abbrev F_are_works : Nat := 10
abbrev F_is_weight : Nat := 11
abbrev F_is_term : Nat := 12
abbrev F_is_pick : Nat := 13
abbrev F_is_tree_form : Nat := 14
abbrev F_trees_in : Nat := 15
abbrev F_nodes_in : Nat := 16
abbrev F_all_works_in : Nat := 17
abbrev F_works_in : Nat := 18
abbrev F_is_tree : Nat := 19
abbrev F_value_of : Nat := 20
abbrev F_is_rule_form : Nat := 21
abbrev F_works_of_all : Nat := 22
abbrev F_is_score : Nat := 23
abbrev F_is_behind : Nat := 24
abbrev F_is_mark : Nat := 25
abbrev F_wrong_marks : Nat := 26
abbrev F_check_marks : Nat := 27
abbrev F_check_scores_of : Nat := 28
abbrev F_check_schemes : Nat := 29
abbrev F_is_better : Nat := 30
abbrev F_best_at : Nat := 31
abbrev F_grades_by : Nat := 32
abbrev F_scheme_grade : Nat := 33
abbrev F_best_scheme : Nat := 34
abbrev F__law_urn : Nat := 35
abbrev F__law_take : Nat := 36
abbrev F__law_of : Nat := 37
abbrev F__law_names : Nat := 38
abbrev F__law_simple : Nat := 39
abbrev F__law_rule : Nat := 40
abbrev F__law_value : Nat := 41
abbrev F__law_lowest : Nat := 42
abbrev F__law_scores : Nat := 43
abbrev F__law_schemes : Nat := 44
abbrev F__law_best : Nat := 45
abbrev F__law_right : Nat := 46
abbrev F_law : Nat := 47
def B_is_whole : Ss :=
  (.cons (.ret (.an (.isi .int (.var 0)) (.nt (.isi .bool (.var 0))))) <|
  .nil)
def D_is_whole : FD × List Str := (⟨1, 1, B_is_whole⟩, ["value"])
def B_is_number : Ss :=
  (.cons (.iff (.or_ (.nt (.call F_is_whole (.cons (.var 0) .nil))) (.an (.cmp .isnot (.var 1) (.cst .none)) (.cmp .lt (.var 0) (.var 1))))
    (.cons (.ret (.cst (.bool false))) <|
    .nil)
    (.nil)) <|
  .cons (.ret (.or_ (.cmp .is (.var 2) (.cst .none)) (.cmp .le (.var 0) (.var 2)))) <|
  .nil)
def D_is_number : FD × List Str := (⟨3, 3, B_is_number⟩, ["value", "low", "high"])
def B_greatest_divisor : Ss :=
  (.cons (.par 0 1 (.bi .abs (.cons (.var 0) .nil)) (.bi .abs (.cons (.var 1) .nil))) <|
  .cons (.wh (.cmp .gt (.var 1) (.cst (.int 0)))
    (.cons (.par 0 1 (.var 1) (.bin .mod (.var 0) (.var 1))) <|
    .nil)) <|
  .cons (.ret (.var 0)) <|
  .nil)
def D_greatest_divisor : FD × List Str := (⟨2, 2, B_greatest_divisor⟩, ["one", "other"])
def B_lowest : Ss :=
  (.cons (.asg (.nm 2) (.call F_greatest_divisor (.cons (.var 0) (.cons (.var 1) .nil)))) <|
  .cons (.ret (.tup (.cons (.bin .fdiv (.var 0) (.var 2)) (.cons (.bin .fdiv (.var 1) (.var 2)) .nil)))) <|
  .nil)
def D_lowest : FD × List Str := (⟨2, 3, B_lowest⟩, ["number", "scale", "shared"])
def B_is_tuple_of : Ss :=
  (.cons (.ret (.an (.isi .tuple (.var 0)) (.cmp .eq (.bi .len (.cons (.var 0) .nil)) (.var 1)))) <|
  .nil)
def D_is_tuple_of : FD × List Str := (⟨2, 2, B_is_tuple_of⟩, ["value", "many"])
def B_is_ascending : Ss :=
  (.cons (.ret (.bi .all (.cons (.frz (.comp [("one", 1), ("two", 2)] (.tp (.cons (.nm 1) (.cons (.nm 2) .nil))) (.zip (.var 0) (.slc (.var 0) (.cons (.cst (.int 1)) .nil) .nil)) .nil (.cmp .lt (.var 1) (.var 2)))) .nil))) <|
  .nil)
def D_is_ascending : FD × List Str := (⟨1, 3, B_is_ascending⟩, ["values", "one", "two"])
def B_wrong_at : Ss :=
  (.cons (.iff (.nt (.isi .tuple (.var 0)))
    (.cons (.ret (.frz (.disp (.cons (.cst .none) .nil)))) <|
    .nil)
    (.nil)) <|
  .cons (.for_ (.tp (.cons (.nm 3) (.cons (.nm 4) .nil))) (.enum (.var 0))
    (.cons (.iff (.or_ (.cmp .eq (.var 3) (.var 1)) (.nt (.callv 2 (.cons (.var 4) (.cons (.slc (.var 0) .nil (.cons (.var 3) .nil)) .nil)))))
      (.cons (.ret (.frz (.disp (.cons (.var 3) .nil)))) <|
      .nil)
      (.nil)) <|
    .nil)) <|
  .cons (.ret (.frz (.disp .nil))) <|
  .nil)
def D_wrong_at : FD × List Str := (⟨3, 5, B_wrong_at⟩, ["values", "most", "is_right", "at", "value"])
def B_is_letters : Ss :=
  (.cons (.iff (.or_ (.nt (.isi .str (.var 0))) (.nt (.cmp2 .le .le (.var 1) (.bi .len (.cons (.var 0) .nil)) (.var 2))))
    (.cons (.ret (.cst (.bool false))) <|
    .nil)
    (.nil)) <|
  .cons (.ret (.bi .all (.cons (.frz (.comp [("letter", 3)] (.nm 3) (.seq (.var 0)) .nil (.cmp .isin (.var 3) (.gc "SMALL_LETTERS" (.str "abcdefghijklmnopqrstuvwxyz"))))) .nil))) <|
  .nil)
def D_is_letters : FD × List Str := (⟨3, 4, B_is_letters⟩, ["value", "least", "most", "letter"])
def B_is_name : Ss :=
  (.cons (.ret (.an (.call F_is_letters (.cons (.var 0) (.cons (.cst (.int 1)) (.cons (.gc "MOST_IN_NAME" (.int 8)) .nil)))) (.cmp .notin (.var 0) (.gc "WORDS" (.tuple ([(.str "all"), (.str "at"), (.str "best"), (.str "by"), (.str "close"), (.str "correct"), (.str "day"), (.str "each"), (.str "from"), (.str "grade"), (.str "hurdle"), (.str "least"), (.str "letter"), (.str "mark"), (.str "may"), (.str "names"), (.str "needs"), (.str "never"), (.str "no"), (.str "none")] ++ [(.str "not"), (.str "of"), (.str "open"), (.str "over"), (.str "rank"), (.str "rule"), (.str "scale"), (.str "score"), (.str "sum"), (.str "sure"), (.str "to"), (.str "with"), (.str "work"), (.str "works")])))))) <|
  .nil)
def D_is_name : FD × List Str := (⟨1, 1, B_is_name⟩, ["value"])
def B_is_one_of : Ss :=
  (.cons (.ret (.an (.isi .str (.var 0)) (.cmp .isin (.var 0) (.var 1)))) <|
  .nil)
def D_is_one_of : FD × List Str := (⟨2, 2, B_is_one_of⟩, ["value", "words"])
def B_are_works : Ss :=
  (.cons (.ret (.an (.isi .tuple (.var 0)) (.an (.cmp .ne (.var 0) (.tup .nil)) (.an (.bi .all (.cons (.frz (.comp [("each", 1)] (.nm 1) (.seq (.var 0)) .nil (.call F_is_name (.cons (.var 1) .nil)))) .nil)) (.call F_is_ascending (.cons (.var 0) .nil)))))) <|
  .nil)
def D_are_works : FD × List Str := (⟨1, 2, B_are_works⟩, ["value", "each"])
def B_is_weight : Ss :=
  (.cons (.ret (.an (.call F_is_number (.cons (.var 0) (.cons (.neg (.gc "MOST_WEIGHT" (.int 100))) (.cons (.gc "MOST_WEIGHT" (.int 100)) .nil)))) (.cmp .ne (.var 0) (.cst (.int 0))))) <|
  .nil)
def D_is_weight : FD × List Str := (⟨1, 1, B_is_weight⟩, ["value"])
def B_is_term : Ss :=
  (.cons (.ret (.an (.call F_is_tuple_of (.cons (.var 0) (.cons (.cst (.int 2)) .nil))) (.an (.call F_is_weight (.cons (.idx (.var 0) (.cst (.int 0))) .nil)) (.call F_is_tree_form (.cons (.idx (.var 0) (.cst (.int 1))) (.cons (.var 1) .nil)))))) <|
  .nil)
def D_is_term : FD × List Str := (⟨2, 2, B_is_term⟩, ["value", "levels"])
def B_is_pick : Ss :=
  (.cons (.iff (.or_ (.nt (.call F_is_tuple_of (.cons (.var 0) (.cons (.cst (.int 3)) .nil)))) (.or_ (.nt (.call F_is_one_of (.cons (.idx (.var 0) (.cst (.int 0))) (.cons (.tup (.cons (.cst (.str "best")) (.cons (.cst (.str "rank")) .nil))) .nil)))) (.nt (.call F_are_works (.cons (.idx (.var 0) (.cst (.int 2))) .nil)))))
    (.cons (.ret (.cst (.bool false))) <|
    .nil)
    (.nil)) <|
  .cons (.ret (.call F_is_number (.cons (.idx (.var 0) (.cst (.int 1))) (.cons (.cst (.int 1)) (.cons (.bi .len (.cons (.idx (.var 0) (.cst (.int 2))) .nil)) .nil))))) <|
  .nil)
def D_is_pick : FD × List Str := (⟨1, 1, B_is_pick⟩, ["value"])
def B_is_tree_form : Ss :=
  (.cons (.iff (.or_ (.cmp .eq (.var 1) (.cst (.int 0))) (.nt (.isi .tuple (.var 0))))
    (.cons (.ret (.cst (.bool false))) <|
    .nil)
    (.nil)) <|
  .cons (.iff (.call F_is_tuple_of (.cons (.var 0) (.cons (.cst (.int 3)) .nil)))
    (.cons (.ret (.call F_is_pick (.cons (.var 0) .nil))) <|
    .nil)
    (.nil)) <|
  .cons (.iff (.nt (.call F_is_tuple_of (.cons (.var 0) (.cons (.cst (.int 2)) .nil))))
    (.cons (.ret (.cst (.bool false))) <|
    .nil)
    (.nil)) <|
  .cons (.iff (.call F_is_one_of (.cons (.idx (.var 0) (.cst (.int 0))) (.cons (.tup (.cons (.cst (.str "work")) .nil)) .nil)))
    (.cons (.ret (.call F_is_name (.cons (.idx (.var 0) (.cst (.int 1))) .nil))) <|
    .nil)
    (.nil)) <|
  .cons (.iff (.or_ (.nt (.call F_is_one_of (.cons (.idx (.var 0) (.cst (.int 0))) (.cons (.tup (.cons (.cst (.str "sum")) .nil)) .nil)))) (.nt (.isi .tuple (.idx (.var 0) (.cst (.int 1))))))
    (.cons (.ret (.cst (.bool false))) <|
    .nil)
    (.nil)) <|
  .cons (.ret (.an (.cmp2 .le .le (.cst (.int 1)) (.bi .len (.cons (.idx (.var 0) (.cst (.int 1))) .nil)) (.gc "MOST_TERMS" (.int 9))) (.bi .all (.cons (.frz (.comp [("each", 2)] (.nm 2) (.seq (.idx (.var 0) (.cst (.int 1)))) .nil (.call F_is_term (.cons (.var 2) (.cons (.bin .sub (.var 1) (.cst (.int 1))) .nil))))) .nil)))) <|
  .nil)
def D_is_tree_form : FD × List Str := (⟨2, 3, B_is_tree_form⟩, ["value", "levels", "each"])
def B_trees_in : Ss :=
  (.cons (.ret (.ite (.cmp .eq (.idx (.var 0) (.cst (.int 0))) (.cst (.str "sum"))) (.bi .tuple (.cons (.frz (.comp [("_", 1), ("inner", 2)] (.tp (.cons (.nm 1) (.cons (.nm 2) .nil))) (.seq (.idx (.var 0) (.cst (.int 1)))) .nil (.var 2))) .nil)) (.tup .nil))) <|
  .nil)
def D_trees_in : FD × List Str := (⟨1, 3, B_trees_in⟩, ["tree", "_", "inner"])
def B_nodes_in : Ss :=
  (.cons (.ret (.bin .add (.cst (.int 1)) (.bi .sum (.cons (.frz (.comp [("inner", 1)] (.nm 1) (.seq (.call F_trees_in (.cons (.var 0) .nil))) .nil (.call F_nodes_in (.cons (.var 1) .nil)))) .nil)))) <|
  .nil)
def D_nodes_in : FD × List Str := (⟨1, 2, B_nodes_in⟩, ["tree", "inner"])
def B_all_works_in : Ss :=
  (.cons (.iff (.cmp .eq (.idx (.var 0) (.cst (.int 0))) (.cst (.str "work")))
    (.cons (.ret (.frz (.disp (.cons (.idx (.var 0) (.cst (.int 1))) .nil)))) <|
    .nil)
    (.nil)) <|
  .cons (.iff (.cmp .ne (.idx (.var 0) (.cst (.int 0))) (.cst (.str "sum")))
    (.cons (.ret (.frz (.listOf (.idx (.var 0) (.cst (.int 2)))))) <|
    .nil)
    (.nil)) <|
  .cons (.asg (.nm 1) (.cell (.disp .nil))) <|
  .cons (.for_ (.nm 2) (.seq (.call F_trees_in (.cons (.var 0) .nil)))
    (.cons (.ex (.ext 1 (.call F_all_works_in (.cons (.var 2) .nil)))) <|
    .nil)) <|
  .cons (.ret (.fz (.var 1))) <|
  .nil)
def D_all_works_in : FD × List Str := (⟨1, 3, B_all_works_in⟩, ["tree", "found", "inner"])
def B_works_in : Ss :=
  (.cons (.ret (.bi .tuple (.cons (.frz (.sortedSet (.call F_all_works_in (.cons (.var 0) .nil)))) .nil))) <|
  .nil)
def D_works_in : FD × List Str := (⟨1, 1, B_works_in⟩, ["tree"])
def B_is_tree : Ss :=
  (.cons (.iff (.or_ (.nt (.call F_is_tree_form (.cons (.var 0) (.cons (.gc "MOST_LEVELS" (.int 4)) .nil)))) (.cmp .gt (.call F_nodes_in (.cons (.var 0) .nil)) (.gc "MOST_NODES" (.int 14))))
    (.cons (.ret (.cst (.bool false))) <|
    .nil)
    (.nil)) <|
  .cons (.ret (.cmp .le (.bi .len (.cons (.call F_works_in (.cons (.var 0) .nil)) .nil)) (.gc "MOST_WORKS" (.int 9)))) <|
  .nil)
def D_is_tree : FD × List Str := (⟨1, 1, B_is_tree⟩, ["value"])
def B_value_of : Ss :=
  (.cons (.iff (.cmp .eq (.idx (.var 0) (.cst (.int 0))) (.cst (.str "work")))
    (.cons (.ret (.idx (.var 1) (.idx (.var 0) (.cst (.int 1))))) <|
    .nil)
    (.nil)) <|
  .cons (.iff (.cmp .eq (.idx (.var 0) (.cst (.int 0))) (.cst (.str "sum")))
    (.cons (.ret (.bi .sum (.cons (.frz (.comp [("weight", 4), ("inner", 5)] (.tp (.cons (.nm 4) (.cons (.nm 5) .nil))) (.seq (.idx (.var 0) (.cst (.int 1)))) .nil (.bin .mul (.var 4) (.call F_value_of (.cons (.var 5) (.cons (.var 1) .nil)))))) .nil))) <|
    .nil)
    (.nil)) <|
  .cons (.asg (.nm 2) (.frz (.sorted true (.frz (.comp [("work", 3)] (.nm 3) (.seq (.idx (.var 0) (.cst (.int 2)))) .nil (.idx (.var 1) (.var 3))))))) <|
  .cons (.ret (.ite (.cmp .eq (.idx (.var 0) (.cst (.int 0))) (.cst (.str "best"))) (.bi .sum (.cons (.slc (.var 2) .nil (.cons (.idx (.var 0) (.cst (.int 1))) .nil)) .nil)) (.idx (.var 2) (.bin .sub (.idx (.var 0) (.cst (.int 1))) (.cst (.int 1)))))) <|
  .nil)
def D_value_of : FD × List Str := (⟨2, 6, B_value_of⟩, ["tree", "known", "best", "work", "weight", "inner"])
def B_is_rule_form : Ss :=
  (.cons (.ret (.an (.call F_is_tuple_of (.cons (.var 0) (.cons (.cst (.int 2)) .nil))) (.an (.call F_is_tree (.cons (.idx (.var 0) (.cst (.int 0))) .nil)) (.call F_is_number (.cons (.idx (.var 0) (.cst (.int 1))) (.cons (.cst (.int 1)) (.cons (.gc "MOST_SCALE" (.int 1000000)) .nil))))))) <|
  .nil)
def D_is_rule_form : FD × List Str := (⟨1, 1, B_is_rule_form⟩, ["value"])
def B_works_of_all : Ss :=
  (.cons (.asg (.nm 1) (.cell (.disp .nil))) <|
  .cons (.for_ (.nm 2) (.seq (.var 0))
    (.cons (.ex (.ext 1 (.call F_works_in (.cons (.idx (.var 2) (.cst (.int 0))) .nil)))) <|
    .nil)) <|
  .cons (.ret (.bi .tuple (.cons (.frz (.sortedSet (.var 1))) .nil))) <|
  .nil)
def D_works_of_all : FD × List Str := (⟨1, 3, B_works_of_all⟩, ["rules", "found", "rule"])
def B_is_score : Ss :=
  (.cons (.ret (.call F_is_number (.cons (.var 0) (.cons (.cst (.int 0)) (.cons (.gc "MOST_SCORE" (.int 100)) .nil))))) <|
  .nil)
def D_is_score : FD × List Str := (⟨1, 1, B_is_score⟩, ["value"])
def B_is_behind : Ss :=
  (.cons (.ret (.or_ (.cmp .eq (.var 1) (.tup .nil)) (.cmp .lt (.idx (.idx (.var 1) (.neg (.cst (.int 1)))) (.cst (.int 0))) (.idx (.var 0) (.cst (.int 0)))))) <|
  .nil)
def D_is_behind : FD × List Str := (⟨2, 2, B_is_behind⟩, ["value", "before"])
def B_is_mark : Ss :=
  (.cons (.ret (.an (.call F_is_tuple_of (.cons (.var 0) (.cons (.cst (.int 2)) .nil))) (.an (.call F_is_name (.cons (.idx (.var 0) (.cst (.int 0))) .nil)) (.an (.call F_is_score (.cons (.idx (.var 0) (.cst (.int 1))) .nil)) (.call F_is_behind (.cons (.var 0) (.cons (.var 1) .nil))))))) <|
  .nil)
def D_is_mark : FD × List Str := (⟨2, 2, B_is_mark⟩, ["value", "before"])
def B_wrong_marks : Ss :=
  (.cons (.ret (.call F_wrong_at (.cons (.var 0) (.cons (.gc "MOST_WORKS" (.int 9)) (.cons (.gf F_is_mark) .nil))))) <|
  .nil)
def D_wrong_marks : FD × List Str := (⟨1, 1, B_wrong_marks⟩, ["value"])
def B_check_marks : Ss :=
  (.cons (.for_ (.nm 1) (.seq (.call F_wrong_marks (.cons (.var 0) .nil)))
    (.cons .never <|
    .nil)) <|
  .nil)
def D_check_marks : FD × List Str := (⟨1, 2, B_check_marks⟩, ["value", "at"])
def B_check_scores_of : Ss :=
  (.cons (.ex (.call F_check_marks (.cons (.var 1) .nil))) <|
  .cons (.asg (.nm 2) (.frz (.comp [("work", 3), ("_", 4)] (.tp (.cons (.nm 3) (.cons (.nm 4) .nil))) (.seq (.var 1)) .nil (.var 3)))) <|
  .cons (.for_ (.nm 3) (.seq (.var 0))
    (.cons (.iff (.cmp .notin (.var 3) (.var 2))
      (.cons .never <|
      .nil)
      (.nil)) <|
    .nil)) <|
  .nil)
def D_check_scores_of : FD × List Str := (⟨2, 5, B_check_scores_of⟩, ["works", "value", "known", "work", "_"])
def B_check_schemes : Ss :=
  (.cons (.iff (.or_ (.nt (.isi .tuple (.var 0))) (.nt (.cmp2 .le .le (.cst (.int 1)) (.bi .len (.cons (.var 0) .nil)) (.gc "MOST_SCHEMES" (.int 4)))))
    (.cons .never <|
    .nil)
    (.nil)) <|
  .cons (.iff (.or_ (.nt (.bi .all (.cons (.frz (.comp [("rule", 1)] (.nm 1) (.seq (.var 0)) .nil (.call F_is_rule_form (.cons (.var 1) .nil)))) .nil))) (.cmp .gt (.bi .len (.cons (.call F_works_of_all (.cons (.var 0) .nil)) .nil)) (.gc "MOST_WORKS" (.int 9))))
    (.cons .never <|
    .nil)
    (.nil)) <|
  .nil)
def D_check_schemes : FD × List Str := (⟨1, 2, B_check_schemes⟩, ["value", "rule"])
def B_is_better : Ss :=
  (.cons (.ret (.cmp .gt (.bin .mul (.idx (.var 0) (.cst (.int 0))) (.idx (.var 1) (.cst (.int 1)))) (.bin .mul (.idx (.var 1) (.cst (.int 0))) (.idx (.var 0) (.cst (.int 1)))))) <|
  .nil)
def D_is_better : FD × List Str := (⟨2, 2, B_is_better⟩, ["one", "other"])
def B_best_at : Ss :=
  (.cons (.asg (.nm 1) (.cst (.int 0))) <|
  .cons (.for_ (.tp (.cons (.nm 2) (.cons (.nm 3) .nil))) (.enum (.var 0))
    (.cons (.iff (.call F_is_better (.cons (.var 3) (.cons (.idx (.var 0) (.var 1)) .nil)))
      (.cons (.asg (.nm 1) (.var 2)) <|
      .nil)
      (.nil)) <|
    .nil)) <|
  .cons (.ret (.var 1)) <|
  .nil)
def D_best_at : FD × List Str := (⟨1, 4, B_best_at⟩, ["grades", "found", "at", "grade"])
def B_grades_by : Ss :=
  (.cons (.asg (.nm 2) (.dct (.var 1))) <|
  .cons (.ret (.frz (.comp [("tree", 3), ("scale", 4)] (.tp (.cons (.nm 3) (.cons (.nm 4) .nil))) (.seq (.var 0)) .nil (.call F_lowest (.cons (.call F_value_of (.cons (.var 3) (.cons (.var 2) .nil))) (.cons (.var 4) .nil)))))) <|
  .nil)
def D_grades_by : FD × List Str := (⟨2, 5, B_grades_by⟩, ["schemes", "scores", "known", "tree", "scale"])
def B_scheme_grade : Ss :=
  (.cons (.ex (.call F_check_schemes (.cons (.var 0) .nil))) <|
  .cons (.ex (.call F_check_scores_of (.cons (.call F_works_of_all (.cons (.var 0) .nil)) (.cons (.var 1) .nil)))) <|
  .cons (.asg (.nm 2) (.call F_grades_by (.cons (.var 0) (.cons (.var 1) .nil)))) <|
  .cons (.ret (.idx (.var 2) (.call F_best_at (.cons (.var 2) .nil)))) <|
  .nil)
def D_scheme_grade : FD × List Str := (⟨2, 3, B_scheme_grade⟩, ["schemes", "scores", "grades"])
def B_best_scheme : Ss :=
  (.cons (.ex (.call F_check_schemes (.cons (.var 0) .nil))) <|
  .cons (.ex (.call F_check_scores_of (.cons (.call F_works_of_all (.cons (.var 0) .nil)) (.cons (.var 1) .nil)))) <|
  .cons (.ret (.call F_best_at (.cons (.call F_grades_by (.cons (.var 0) (.cons (.var 1) .nil))) .nil))) <|
  .nil)
def D_best_scheme : FD × List Str := (⟨2, 2, B_best_scheme⟩, ["schemes", "scores"])
def B__law_urn : Ss :=
  (.cons (.asg (.nm 2) (.bin .add (.cst (.int 661523)) (.bin .mul (.cst (.int 8111)) (.var 1)))) <|
  .cons (.for_ (.nm 3) (.seq (.frz (.scs (.var 0) (.cons (.cst (.int 9)) .nil))))
    (.cons (.asg (.nm 2) (.bin .mod (.bi .int (.cons (.bin .add (.bin .add (.bin .mul (.var 2) (.cst (.int 50021))) (.bin .mul (.bin .mod (.bi .int (.cons (.var 3) .nil)) (.cst (.int 2147483477))) (.cst (.int 13)))) (.cst (.int 41))) .nil)) (.cst (.int 2147483629)))) <|
    .nil)) <|
  .cons (.asg (.nm 4) (.ite (.cmp .lt (.var 1) (.scl (.var 0))) (.bi .int (.cons (.sci (.var 0) (.var 1)) .nil)) (.cst (.int 0)))) <|
  .cons (.asg (.nm 2) (.bin .mod (.bi .int (.cons (.bin .add (.bin .add (.bin .mul (.var 2) (.cst (.int 59))) (.bin .mul (.bin .mod (.bi .int (.cons (.var 4) .nil)) (.cst (.int 2147483477))) (.cst (.int 30029)))) (.cst (.int 5))) .nil)) (.cst (.int 2147483629)))) <|
  .cons (.ret (.cell (.disp (.cons (.ite (.or_ (.cmp .lt (.var 4) (.cst (.int 0))) (.cmp .ge (.var 4) (.bin .pow (.cst (.int 10)) (.cst (.int 15))))) (.bi .abs (.cons (.var 4) .nil)) (.cst (.int 0))) (.cons (.var 2) (.cons (.cst (.int 0)) .nil)))))) <|
  .nil)
def D__law_urn : FD × List Str := (⟨2, 5, B__law_urn⟩, ["script", "lap", "mixed", "cell", "own"])
def B__law_take : Ss :=
  (.cons (.iff (.cmp .gt (.idx (.var 0) (.cst (.int 0))) (.cst (.int 0)))
    (.cons (.asg (.tp (.cons (.sub 0 (.cst (.int 0))) (.cons (.nm 3) .nil))) (.bi .divmod (.cons (.idx (.var 0) (.cst (.int 0))) (.cons (.var 1) .nil)))) <|
    .cons (.ret (.var 3)) <|
    .nil)
    (.nil)) <|
  .cons (.asg (.sub 0 (.cst (.int 2))) (.bin .add (.idx (.var 0) (.cst (.int 2))) (.cst (.int 1)))) <|
  .cons (.asg (.nm 2) (.bin .mod (.bi .int (.cons (.bin .add (.bin .mul (.idx (.var 0) (.cst (.int 1))) (.cst (.int 40009))) (.bin .mul (.cst (.int 15013)) (.idx (.var 0) (.cst (.int 2))))) .nil)) (.cst (.int 2147483629)))) <|
  .cons (.asg (.sub 0 (.cst (.int 1))) (.bin .mod (.bi .int (.cons (.bin .add (.bin .mul (.var 2) (.bin .add (.bin .mod (.bi .int (.cons (.var 2) .nil)) (.cst (.int 5003))) (.cst (.int 30011)))) (.bin .mul (.cst (.int 3)) (.idx (.var 0) (.cst (.int 2))))) .nil)) (.cst (.int 2147483629)))) <|
  .cons (.ret (.bin .mod (.bi .int (.cons (.bin .fdiv (.idx (.var 0) (.cst (.int 1))) (.cst (.int 907))) .nil)) (.var 1))) <|
  .nil)
def D__law_take : FD × List Str := (⟨2, 4, B__law_take⟩, ["urn", "many", "stir", "figure"])
def B__law_of : Ss :=
  (.cons (.ret (.idx (.var 1) (.call F__law_take (.cons (.var 0) (.cons (.bi .len (.cons (.var 1) .nil)) .nil))))) <|
  .nil)
def D__law_of : FD × List Str := (⟨2, 2, B__law_of⟩, ["urn", "some"])
def B__law_names : Ss :=
  (.cons (.par 2 3 (.cell (.disp .nil)) (.cst (.str "abcdefghijklmnopqrstuvwxyz"))) <|
  .cons (.for_ (.nm 4) (.range1 (.var 1))
    (.cons (.par 5 6 (.call F__law_of (.cons (.var 0) (.cons (.frz (.disp (.cons (.cst (.int 0)) (.cons (.cst (.int 0)) (.cons (.cst (.int 1)) (.cons (.cst (.int 3)) (.cons (.cst (.int 6)) .nil))))))) .nil))) (.cst (.str ""))) <|
    .cons (.for_ (.nm 7) (.range1 (.var 5))
      (.cons (.asg (.nm 6) (.bin .add (.var 6) (.call F__law_of (.cons (.var 0) (.cons (.var 3) .nil))))) <|
      .nil)) <|
    .cons (.asg (.nm 8) (.call F__law_take (.cons (.var 0) (.cons (.bin .add (.var 5) (.cst (.int 1))) .nil)))) <|
    .cons (.asg (.nm 6) (.bin .add (.bin .add (.bin .add (.slc (.var 6) .nil (.cons (.var 8) .nil)) (.idx (.var 3) (.var 4))) (.slc (.cst (.str "q")) .nil (.cons (.var 5) .nil))) (.slc (.var 6) (.cons (.var 8) .nil) .nil))) <|
    .cons (.ex (.app 2 (.ite (.cmp .notin (.var 6) (.var 2)) (.var 6) (.bin .add (.bin .mul (.idx (.var 3) (.var 4)) (.cst (.int 7))) (.cst (.str "q")))))) <|
    .nil)) <|
  .cons (.ret (.fz (.var 2))) <|
  .nil)
def D__law_names : FD × List Str := (⟨2, 9, B__law_names⟩, ["urn", "many", "found", "letters", "turn", "size", "name", "lap", "at"])
def B__law_simple_1 : Ss :=
  (.cons (.ex (.app 2 (.pop 3 (.call F__law_take (.cons (.var 0) (.cons (.bi .len (.cons (.var 3) .nil)) .nil)))))) <|
  .nil)
def B__law_simple_3 : Ss :=
  (.cons (.ret (.tup (.cons (.ite (.cmp .eq (.var 5) (.cst (.int 1))) (.cst (.str "best")) (.cst (.str "rank"))) (.cons (.bin .add (.cst (.int 1)) (.call F__law_take (.cons (.var 0) (.cons (.bi .len (.cons (.var 2) .nil)) .nil)))) (.cons (.var 2) .nil))))) <|
  .nil)
def B__law_simple_2 : Ss :=
  (.cons (.par 2 5 (.bi .tuple (.cons (.frz (.sorted false (.var 2))) .nil)) (.call F__law_take (.cons (.var 0) (.cons (.cst (.int 3)) .nil)))) <|
  .cons (.iff (.cmp .eq (.var 5) (.cst (.int 0)))
    (.cons (.ret (.tup (.cons (.cst (.str "work")) (.cons (.idx (.var 2) (.cst (.int 0))) .nil)))) <|
    .nil)
    (.nil)) <|
  B__law_simple_3)
def B__law_simple : Ss :=
  (.cons (.par 2 3 (.cell (.disp .nil)) (.cell (.listOf (.var 1)))) <|
  .cons (.for_ (.nm 4) (.range1 (.bin .add (.cst (.int 1)) (.call F__law_take (.cons (.var 0) (.cons (.bi .len (.cons (.var 1) .nil)) .nil))))) B__law_simple_1) <|
  B__law_simple_2)
def D__law_simple : FD × List Str := (⟨2, 6, B__law_simple⟩, ["urn", "works", "some", "left", "turn", "way"])
def B__law_rule_4 : Ss :=
  (.cons (.ex (.app 7 (.tup (.cons (.call F__law_of (.cons (.var 0) (.cons (.var 3) .nil))) (.cons (.call F__law_simple (.cons (.var 0) (.cons (.var 1) .nil))) .nil))))) <|
  .nil)
def B__law_rule_5 : Ss :=
  (.cons (.ex (.app 4 (.tup (.cons (.call F__law_of (.cons (.var 0) (.cons (.var 3) .nil))) (.cons (.ite (.cmp .ne (.var 7) (.frz (.disp .nil))) (.tup (.cons (.cst (.str "sum")) (.cons (.bi .tuple (.cons (.var 7) .nil)) .nil))) (.call F__law_simple (.cons (.var 0) (.cons (.var 1) .nil)))) .nil))))) <|
  .nil)
def B__law_rule_3 : Ss :=
  (.cons (.asg (.nm 7) (.cell (.disp .nil))) <|
  .cons (.for_ (.nm 8) (.range1 (.call F__law_of (.cons (.var 0) (.cons (.frz (.disp (.cons (.cst (.int 0)) (.cons (.cst (.int 0)) (.cons (.cst (.int 1)) (.cons (.cst (.int 2)) .nil)))))) .nil)))) B__law_rule_4) <|
  B__law_rule_5)
def B__law_rule_6 : Ss :=
  (.cons (.ret (.tup (.cons (.tup (.cons (.cst (.str "sum")) (.cons (.bi .tuple (.cons (.var 4) .nil)) .nil))) (.cons (.var 5) .nil)))) <|
  .nil)
def B__law_rule_2 : Ss :=
  (.cons (.for_ (.nm 6) (.range1 (.bin .add (.cst (.int 1)) (.call F__law_take (.cons (.var 0) (.cons (.cst (.int 3)) .nil))))) B__law_rule_3) <|
  B__law_rule_6)
def B__law_rule_1 : Ss :=
  (.cons (.asg (.nm 5) (.call F__law_of (.cons (.var 0) (.cons (.frz (.disp (.cons (.cst (.int 1)) (.cons (.cst (.int 10)) (.cons (.cst (.int 100)) (.cons (.bin .add (.cst (.int 1)) (.call F__law_take (.cons (.var 0) (.cons (.bin .pow (.cst (.int 10)) (.cst (.int 6))) .nil)))) .nil)))))) .nil)))) <|
  .cons (.iff (.cmp .eq (.call F__law_take (.cons (.var 0) (.cons (.cst (.int 4)) .nil))) (.cst (.int 0)))
    (.cons (.ret (.tup (.cons (.call F__law_simple (.cons (.var 0) (.cons (.var 1) .nil))) (.cons (.var 5) .nil)))) <|
    .nil)
    (.nil)) <|
  B__law_rule_2)
def B__law_rule : Ss :=
  (.cons (.par 3 4 (.frz (.disp (.cons (.cst (.int 1)) (.cons (.cst (.int 2)) (.cons (.cst (.int 5)) (.cons (.bin .add (.cst (.int 1)) (.call F__law_take (.cons (.var 0) (.cons (.cst (.int 100)) .nil)))) (.cons (.cst (.int 100)) .nil))))))) (.cell (.disp .nil))) <|
  .cons (.asg (.nm 3) (.ite (.var 2) (.var 3) (.bin .add (.var 3) (.frz (.disp (.cons (.neg (.cst (.int 1))) (.cons (.neg (.cst (.int 3))) (.cons (.bin .sub (.bin .sub (.cst (.int 0)) (.cst (.int 1))) (.call F__law_take (.cons (.var 0) (.cons (.cst (.int 100)) .nil)))) .nil)))))))) <|
  B__law_rule_1)
def D__law_rule : FD × List Str := (⟨3, 9, B__law_rule⟩, ["urn", "works", "is_up", "weights", "terms", "scale", "turn", "inner", "lap"])
def B__law_value : Ss :=
  (.cons (.iff (.cmp .eq (.idx (.var 0) (.cst (.int 0))) (.cst (.str "work")))
    (.cons (.ret (.idx (.var 1) (.idx (.var 0) (.cst (.int 1))))) <|
    .nil)
    (.nil)) <|
  .cons (.iff (.cmp .eq (.idx (.var 0) (.cst (.int 0))) (.cst (.str "sum")))
    (.cons (.ret (.bi .sum (.cons (.frz (.comp [("weight", 4), ("inner", 5)] (.tp (.cons (.nm 4) (.cons (.nm 5) .nil))) (.seq (.idx (.var 0) (.cst (.int 1)))) .nil (.bin .mul (.var 4) (.call F__law_value (.cons (.var 5) (.cons (.var 1) .nil)))))) .nil))) <|
    .nil)
    (.nil)) <|
  .cons (.asg (.nm 2) (.frz (.sorted false (.frz (.comp [("work", 3)] (.nm 3) (.seq (.idx (.var 0) (.cst (.int 2)))) .nil (.bin .sub (.cst (.int 0)) (.idx (.var 1) (.var 3)))))))) <|
  .cons (.ret (.bin .sub (.cst (.int 0)) (.ite (.cmp .eq (.idx (.var 0) (.cst (.int 0))) (.cst (.str "best"))) (.bi .sum (.cons (.slc (.var 2) .nil (.cons (.idx (.var 0) (.cst (.int 1))) .nil)) .nil)) (.idx (.var 2) (.bin .sub (.idx (.var 0) (.cst (.int 1))) (.cst (.int 1))))))) <|
  .nil)
def D__law_value : FD × List Str := (⟨2, 6, B__law_value⟩, ["tree", "known", "some", "work", "weight", "inner"])
def B__law_lowest : Ss :=
  (.cons (.par 2 3 (.bi .abs (.cons (.var 0) .nil)) (.var 1)) <|
  .cons (.for_ (.nm 4) (.range1 (.cst (.int 400)))
    (.cons (.asg (.tp (.cons (.nm 2) (.cons (.nm 3) .nil))) (.ite (.cmp .gt (.var 3) (.cst (.int 0))) (.tup (.cons (.var 3) (.cons (.bin .mod (.bi .int (.cons (.var 2) .nil)) (.var 3)) .nil))) (.tup (.cons (.var 2) (.cons (.cst (.int 0)) .nil))))) <|
    .nil)) <|
  .cons (.ret (.tup (.cons (.bin .fdiv (.var 0) (.var 2)) (.cons (.bin .fdiv (.var 1) (.var 2)) .nil)))) <|
  .nil)
def D__law_lowest : FD × List Str := (⟨2, 5, B__law_lowest⟩, ["number", "scale", "one", "two", "turn"])
def B__law_scores : Ss :=
  (.cons (.par 2 3 (.cell (.disp .nil)) (.call F__law_take (.cons (.var 0) (.cons (.cst (.int 101)) .nil)))) <|
  .cons (.for_ (.nm 4) (.seq (.frz (.sorted false (.var 1))))
    (.cons (.ex (.app 2 (.tup (.cons (.var 4) (.cons (.call F__law_of (.cons (.var 0) (.cons (.frz (.disp (.cons (.cst (.int 0)) (.cons (.cst (.int 100)) (.cons (.cst (.int 50)) (.cons (.var 3) (.cons (.call F__law_take (.cons (.var 0) (.cons (.cst (.int 101)) .nil))) (.cons (.call F__law_take (.cons (.var 0) (.cons (.cst (.int 101)) .nil))) .nil)))))))) .nil))) .nil))))) <|
    .nil)) <|
  .cons (.ret (.bi .tuple (.cons (.var 2) .nil))) <|
  .nil)
def D__law_scores : FD × List Str := (⟨2, 5, B__law_scores⟩, ["urn", "works", "found", "near", "work"])
def B__law_schemes_3 : Ss :=
  (.cons (.ex (.app 3 (.var 5))) <|
  .nil)
def B__law_schemes_2 : Ss :=
  (.cons (.iff (.an (.cmp .ne (.var 3) (.frz (.disp .nil))) (.an (.cmp .eq (.call F__law_take (.cons (.var 0) (.cons (.cst (.int 5)) .nil))) (.cst (.int 0))) (.cmp .le (.idx (.var 5) (.cst (.int 1))) (.bin .pow (.cst (.int 10)) (.cst (.int 5))))))
    (.cons (.asg (.nm 5) (.ite (.cmp .ne (.idx (.idx (.var 5) (.cst (.int 0))) (.cst (.int 0))) (.cst (.str "sum"))) (.tup (.cons (.tup (.cons (.cst (.str "sum")) (.cons (.tup (.cons (.tup (.cons (.cst (.int 2)) (.cons (.idx (.var 5) (.cst (.int 0))) .nil))) .nil)) .nil))) (.cons (.bin .mul (.cst (.int 2)) (.idx (.var 5) (.cst (.int 1)))) .nil))) (.var 5))) <|
    .nil)
    (.nil)) <|
  B__law_schemes_3)
def B__law_schemes_1 : Ss :=
  (.cons (.asg (.nm 5) (.call F__law_rule (.cons (.var 0) (.cons (.var 1) (.cons (.var 2) .nil))))) <|
  .cons (.iff (.an (.cmp .ne (.var 3) (.frz (.disp .nil))) (.cmp .eq (.call F__law_take (.cons (.var 0) (.cons (.cst (.int 4)) .nil))) (.cst (.int 0))))
    (.cons (.asg (.nm 5) (.call F__law_of (.cons (.var 0) (.cons (.var 3) .nil)))) <|
    .nil)
    (.nil)) <|
  B__law_schemes_2)
def B__law_schemes_4 : Ss :=
  (.cons (.ret (.bi .tuple (.cons (.var 3) .nil))) <|
  .nil)
def B__law_schemes : Ss :=
  (.cons (.asg (.nm 3) (.cell (.disp .nil))) <|
  .cons (.for_ (.nm 4) (.range1 (.bin .add (.cst (.int 1)) (.call F__law_take (.cons (.var 0) (.cons (.cst (.int 4)) .nil))))) B__law_schemes_1) <|
  B__law_schemes_4)
def D__law_schemes : FD × List Str := (⟨3, 6, B__law_schemes⟩, ["urn", "works", "is_up", "found", "turn", "rule"])
def B__law_best : Ss :=
  (.cons (.asg (.nm 2) (.cst (.int 0))) <|
  .cons (.for_ (.tp (.cons (.nm 3) (.cons (.tp (.cons (.nm 4) (.cons (.nm 5) .nil))) .nil))) (.enum (.var 0))
    (.cons (.iff (.cmp .gt (.bin .mul (.call F__law_value (.cons (.var 4) (.cons (.var 1) .nil))) (.idx (.idx (.var 0) (.var 2)) (.cst (.int 1)))) (.bin .mul (.call F__law_value (.cons (.idx (.idx (.var 0) (.var 2)) (.cst (.int 0))) (.cons (.var 1) .nil))) (.var 5)))
      (.cons (.asg (.nm 2) (.var 3)) <|
      .nil)
      (.nil)) <|
    .nil)) <|
  .cons (.ret (.var 2)) <|
  .nil)
def D__law_best : FD × List Str := (⟨2, 6, B__law_best⟩, ["schemes", "known", "at", "k", "tree", "scale"])
def B__law_right_2 : Ss :=
  (.cons (.asg (.nm 5) (.call F__law_scores (.cons (.var 0) (.cons (.var 2) .nil)))) <|
  .cons (.asg (.nm 6) (.call F__law_best (.cons (.var 3) (.cons (.dct (.var 5)) .nil)))) <|
  .cons (.asg (.nm 7) (.call F__law_lowest (.cons (.call F__law_value (.cons (.idx (.idx (.var 3) (.var 6)) (.cst (.int 0))) (.cons (.dct (.var 5)) .nil))) (.cons (.idx (.idx (.var 3) (.var 6)) (.cst (.int 1))) .nil)))) <|
  .cons (.asg (.nm 8) (.frz (.disp (.cons (.call F_scheme_grade (.cons (.var 3) (.cons (.var 5) .nil))) (.cons (.callk F_scheme_grade .nil (.cons (.var 5) (.cons (.var 3) .nil)) [1, 0]) .nil))))) <|
  .cons (.asg (.nm 8) (.bin .add (.var 8) (.frz (.disp (.cons (.call F_best_scheme (.cons (.var 3) (.cons (.var 5) .nil))) (.cons (.callk F_best_scheme .nil (.cons (.var 5) (.cons (.var 3) .nil)) [1, 0]) .nil)))))) <|
  .cons (.iff (.cmp .ne (.bi .repr (.cons (.var 8) .nil)) (.bi .repr (.cons (.frz (.disp (.cons (.var 7) (.cons (.var 7) (.cons (.var 6) (.cons (.var 6) .nil)))))) .nil)))
    (.cons (.ret (.cst (.bool false))) <|
    .nil)
    (.nil)) <|
  .nil)
def B__law_right_1 : Ss :=
  (.cons (.asg (.nm 2) (.frz (.sorted false (.call F__law_names (.cons (.var 0) (.cons (.call F__law_of (.cons (.var 0) (.cons (.frz (.disp (.cons (.cst (.int 1)) (.cons (.cst (.int 3)) (.cons (.cst (.int 6)) (.cons (.cst (.int 9)) .nil)))))) .nil))) .nil)))))) <|
  .cons (.asg (.nm 3) (.call F__law_schemes (.cons (.var 0) (.cons (.var 2) (.cons (.cmp .eq (.call F__law_take (.cons (.var 0) (.cons (.cst (.int 2)) .nil))) (.cst (.int 0))) .nil))))) <|
  .cons (.for_ (.nm 4) (.range1 (.cst (.int 4))) B__law_right_2) <|
  .nil)
def B__law_right : Ss :=
  (.cons (.for_ (.nm 1) (.range1 (.cst (.int 4))) B__law_right_1) <|
  .cons (.ret (.cst (.bool true))) <|
  .nil)
def D__law_right : FD × List Str := (⟨1, 9, B__law_right⟩, ["urn", "turn", "works", "schemes", "lap", "scores", "at", "due", "told"])
def B_law : Ss :=
  (.cons (.ret (.bi .all (.cons (.frz (.comp [("lap", 1)] (.nm 1) (.range1 (.bi .max2 (.cons (.cst (.int 1)) (.cons (.bi .min2 (.cons (.scl (.var 0)) (.cons (.cst (.int 3)) .nil))) .nil)))) .nil (.call F__law_right (.cons (.call F__law_urn (.cons (.var 0) (.cons (.var 1) .nil))) .nil)))) .nil))) <|
  .nil)
def D_law : FD × List Str := (⟨1, 2, B_law⟩, ["script", "lap"])
def fs_0 : List (FD × List Str) := [D_is_whole, D_is_number, D_greatest_divisor, D_lowest, D_is_tuple_of, D_is_ascending, D_wrong_at, D_is_letters, D_is_name, D_is_one_of, D_are_works, D_is_weight, D_is_term, D_is_pick, D_is_tree_form, D_trees_in, D_nodes_in, D_all_works_in, D_works_in, D_is_tree]
def fs_1 : List (FD × List Str) := [D_value_of, D_is_rule_form, D_works_of_all, D_is_score, D_is_behind, D_is_mark, D_wrong_marks, D_check_marks, D_check_scores_of, D_check_schemes, D_is_better, D_best_at, D_grades_by, D_scheme_grade, D_best_scheme, D__law_urn, D__law_take, D__law_of, D__law_names, D__law_simple]
def fs_2 : List (FD × List Str) := [D__law_rule, D__law_value, D__law_lowest, D__law_scores, D__law_schemes, D__law_best, D__law_right, D_law]
def fs : List (FD × List Str) := fs_0 ++ fs_1 ++ fs_2
abbrev tab : Nat → Option FD := tabF fs
theorem T_is_whole : tab F_is_whole = some D_is_whole.1 := rfl
theorem T_is_number : tab F_is_number = some D_is_number.1 := rfl
theorem T_greatest_divisor : tab F_greatest_divisor = some D_greatest_divisor.1 := rfl
theorem T_lowest : tab F_lowest = some D_lowest.1 := rfl
theorem T_is_tuple_of : tab F_is_tuple_of = some D_is_tuple_of.1 := rfl
theorem T_is_ascending : tab F_is_ascending = some D_is_ascending.1 := rfl
theorem T_wrong_at : tab F_wrong_at = some D_wrong_at.1 := rfl
theorem T_is_letters : tab F_is_letters = some D_is_letters.1 := rfl
theorem T_is_name : tab F_is_name = some D_is_name.1 := rfl
theorem T_is_one_of : tab F_is_one_of = some D_is_one_of.1 := rfl
theorem T_are_works : tab F_are_works = some D_are_works.1 := rfl
theorem T_is_weight : tab F_is_weight = some D_is_weight.1 := rfl
theorem T_is_term : tab F_is_term = some D_is_term.1 := rfl
theorem T_is_pick : tab F_is_pick = some D_is_pick.1 := rfl
theorem T_is_tree_form : tab F_is_tree_form = some D_is_tree_form.1 := rfl
theorem T_trees_in : tab F_trees_in = some D_trees_in.1 := rfl
theorem T_nodes_in : tab F_nodes_in = some D_nodes_in.1 := rfl
theorem T_all_works_in : tab F_all_works_in = some D_all_works_in.1 := rfl
theorem T_works_in : tab F_works_in = some D_works_in.1 := rfl
theorem T_is_tree : tab F_is_tree = some D_is_tree.1 := rfl
theorem T_value_of : tab F_value_of = some D_value_of.1 := rfl
theorem T_is_rule_form : tab F_is_rule_form = some D_is_rule_form.1 := rfl
theorem T_works_of_all : tab F_works_of_all = some D_works_of_all.1 := rfl
theorem T_is_score : tab F_is_score = some D_is_score.1 := rfl
theorem T_is_behind : tab F_is_behind = some D_is_behind.1 := rfl
theorem T_is_mark : tab F_is_mark = some D_is_mark.1 := rfl
theorem T_wrong_marks : tab F_wrong_marks = some D_wrong_marks.1 := rfl
theorem T_check_marks : tab F_check_marks = some D_check_marks.1 := rfl
theorem T_check_scores_of : tab F_check_scores_of = some D_check_scores_of.1 := rfl
theorem T_check_schemes : tab F_check_schemes = some D_check_schemes.1 := rfl
theorem T_is_better : tab F_is_better = some D_is_better.1 := rfl
theorem T_best_at : tab F_best_at = some D_best_at.1 := rfl
theorem T_grades_by : tab F_grades_by = some D_grades_by.1 := rfl
theorem T_scheme_grade : tab F_scheme_grade = some D_scheme_grade.1 := rfl
theorem T_best_scheme : tab F_best_scheme = some D_best_scheme.1 := rfl
theorem T__law_urn : tab F__law_urn = some D__law_urn.1 := rfl
theorem T__law_take : tab F__law_take = some D__law_take.1 := rfl
theorem T__law_of : tab F__law_of = some D__law_of.1 := rfl
theorem T__law_names : tab F__law_names = some D__law_names.1 := rfl
theorem T__law_simple : tab F__law_simple = some D__law_simple.1 := rfl
theorem T__law_rule : tab F__law_rule = some D__law_rule.1 := rfl
theorem T__law_value : tab F__law_value = some D__law_value.1 := rfl
theorem T__law_lowest : tab F__law_lowest = some D__law_lowest.1 := rfl
theorem T__law_scores : tab F__law_scores = some D__law_scores.1 := rfl
theorem T__law_schemes : tab F__law_schemes = some D__law_schemes.1 := rfl
theorem T__law_best : tab F__law_best = some D__law_best.1 := rfl
theorem T__law_right : tab F__law_right = some D__law_right.1 := rfl
theorem T_law : tab F_law = some D_law.1 := rfl
end Gk
namespace Gk
open PySem PySem.Spec L2 Gd
theorem s_whole (i : Int) (n : Nat) (st : Sto) : go (run tab (n + 1) F_is_whole [.d (.int i)]) st = .ok (.d (.bool true)) st := by
  rw [go_run _ T_is_whole n _ _ ⟨rfl, by decide⟩, go_body]
  unfold D_is_whole B_is_whole
  simp only [den_cons, den_nil, denS, denE, denA, denO, denL, denI, denT, denTs, denC, go_bind, go_pure, go_bad, bindR_ok, bindR_bad, bindR_bindR, bindR_ite, go_ite, go_ofS, go_rdD, go_fzD, go_asB, go_asI, go_slot, slot_s, go_slotF, slotF_s, go_noX, noR_ok, noR_ite, go_opD, go_cmpB, go_cmp, go_isi, go_neg, go_rdL_nil, go_rdL_cons, go_fzL_nil, go_fzL_cons, go_bi1, go_bi2, go_slc, go_tup, go_disp, go_fz, go_seqL, go_seqT, go_enumL, go_enumT, go_zipTT, go_zipLL, go_zipTL, go_zipLT, Nat.sub_self, go_sclS, go_scsS, go_listT, go_listL, go_new, gc_d, gc_ite, take_len, take_app, go_newDc, chkDc_s, modDc_s, go_keyS, go_keyI, go_starT, go_starL, List.set_cons_zero, List.set_cons_succ, List.map_cons, List.map_nil, List.cons_append, List.nil_append, List.replicate_succ, List.replicate_zero, List.length_cons, List.length_nil, Tgs.len, wipeR, List.getD_cons_zero, List.getD_cons_succ]
  rfl
theorem s_number (i lo hi : Int) (n : Nat) (st : Sto) : go (run tab (n + 2) F_is_number [.d (.int i), .d (.int lo), .d (.int hi)]) st = .ok (.d (.bool (decide (lo ≤ i) && decide (i ≤ hi)))) st := by
  rw [go_run _ T_is_number (n + 1) _ _ ⟨rfl, by decide⟩, go_body]
  unfold D_is_number B_is_number
  simp only [den_cons, den_nil, denS, denE, denA, denO, denL, denI, denT, denTs, denC, go_bind, go_pure, go_bad, bindR_ok, bindR_bad, bindR_bindR, bindR_ite, go_ite, go_ofS, go_rdD, go_fzD, go_asB, go_asI, go_slot, slot_s, go_slotF, slotF_s, go_noX, noR_ok, noR_ite, go_opD, go_cmpB, go_cmp, go_isi, go_neg, go_rdL_nil, go_rdL_cons, go_fzL_nil, go_fzL_cons, go_bi1, go_bi2, go_slc, go_tup, go_disp, go_fz, go_seqL, go_seqT, go_enumL, go_enumT, go_zipTT, go_zipLL, go_zipTL, go_zipLT, Nat.sub_self, go_sclS, go_scsS, go_listT, go_listL, go_new, gc_d, gc_ite, take_len, take_app, go_newDc, chkDc_s, modDc_s, go_keyS, go_keyI, go_starT, go_starL, List.set_cons_zero, List.set_cons_succ, List.map_cons, List.map_nil, List.cons_append, List.nil_append, List.replicate_succ, List.replicate_zero, List.length_cons, List.length_nil, Tgs.len, wipeR, List.getD_cons_zero, List.getD_cons_succ, s_whole]
  by_cases h : lo ≤ i
  · simp [cmpD, h, noR, Int.not_lt.mpr h, den_cons, den_nil, denS, denE, denA, denO, denL, denI, denT, denTs, denC, go_bind, go_pure, go_bad, bindR_ok, bindR_bad, bindR_bindR, bindR_ite, go_ite, go_ofS, go_rdD, go_fzD, go_asB, go_asI, go_slot, slot_s, go_slotF, slotF_s, go_noX, noR_ok, noR_ite, go_opD, go_cmpB, go_cmp, go_isi, go_neg, go_rdL_nil, go_rdL_cons, go_fzL_nil, go_fzL_cons, go_bi1, go_bi2, go_slc, go_tup, go_disp, go_fz, go_seqL, go_seqT, go_enumL, go_enumT, go_zipTT, go_zipLL, go_zipTL, go_zipLT, Nat.sub_self, go_sclS, go_scsS, go_listT, go_listL, go_new, gc_d, gc_ite, take_len, take_app, go_newDc, chkDc_s, modDc_s, go_keyS, go_keyI, go_starT, go_starL, List.set_cons_zero, List.set_cons_succ, List.map_cons, List.map_nil, List.cons_append, List.nil_append, List.replicate_succ, List.replicate_zero, List.length_cons, List.length_nil, Tgs.len, wipeR, List.getD_cons_zero, List.getD_cons_succ]
  · simp [cmpD, h, noR, Int.not_le.mp h, den_cons, den_nil, denS, denE, denA, denO, denL, denI, denT, denTs, denC, go_bind, go_pure, go_bad, bindR_ok, bindR_bad, bindR_bindR, bindR_ite, go_ite, go_ofS, go_rdD, go_fzD, go_asB, go_asI, go_slot, slot_s, go_slotF, slotF_s, go_noX, noR_ok, noR_ite, go_opD, go_cmpB, go_cmp, go_isi, go_neg, go_rdL_nil, go_rdL_cons, go_fzL_nil, go_fzL_cons, go_bi1, go_bi2, go_slc, go_tup, go_disp, go_fz, go_seqL, go_seqT, go_enumL, go_enumT, go_zipTT, go_zipLL, go_zipTL, go_zipLT, Nat.sub_self, go_sclS, go_scsS, go_listT, go_listL, go_new, gc_d, gc_ite, take_len, take_app, go_newDc, chkDc_s, modDc_s, go_keyS, go_keyI, go_starT, go_starL, List.set_cons_zero, List.set_cons_succ, List.map_cons, List.map_nil, List.cons_append, List.nil_append, List.replicate_succ, List.replicate_zero, List.length_cons, List.length_nil, Tgs.len, wipeR, List.getD_cons_zero, List.getD_cons_succ]
theorem s_tuple_of (xs : List PyData) (m : Int) (n : Nat) (st : Sto) : go (run tab (n + 1) F_is_tuple_of [.d (.tuple xs), .d (.int m)]) st = .ok (.d (.bool (decide ((xs.length : Int) = m)))) st := by
  rw [go_run _ T_is_tuple_of n _ _ ⟨rfl, by decide⟩, go_body]
  unfold D_is_tuple_of B_is_tuple_of
  simp only [den_cons, den_nil, denS, denE, denA, denO, denL, denI, denT, denTs, denC, go_bind, go_pure, go_bad, bindR_ok, bindR_bad, bindR_bindR, bindR_ite, go_ite, go_ofS, go_rdD, go_fzD, go_asB, go_asI, go_slot, slot_s, go_slotF, slotF_s, go_noX, noR_ok, noR_ite, go_opD, go_cmpB, go_cmp, go_isi, go_neg, go_rdL_nil, go_rdL_cons, go_fzL_nil, go_fzL_cons, go_bi1, go_bi2, go_slc, go_tup, go_disp, go_fz, go_seqL, go_seqT, go_enumL, go_enumT, go_zipTT, go_zipLL, go_zipTL, go_zipLT, Nat.sub_self, go_sclS, go_scsS, go_listT, go_listL, go_new, gc_d, gc_ite, take_len, take_app, go_newDc, chkDc_s, modDc_s, go_keyS, go_keyI, go_starT, go_starL, List.set_cons_zero, List.set_cons_succ, List.map_cons, List.map_nil, List.cons_append, List.nil_append, List.replicate_succ, List.replicate_zero, List.length_cons, List.length_nil, Tgs.len, wipeR, List.getD_cons_zero, List.getD_cons_succ, isiD, biD, lenD, Option.map_some, cmp_eqI, if_true]
theorem zip_lt : ∀ {l : List Str}, l.Pairwise (fun a b => strLt a b = true) → ∀ p ∈ l.zip (l.drop 1), strLt p.1 p.2 = true
  | [], _ => fun p h => by simp at h
  | [a], _ => fun p h => by simp at h
  | a :: b :: r, h => fun p hp => by
    obtain ⟨h1, h2⟩ := List.pairwise_cons.mp h
    rw [List.drop_one, List.tail_cons, List.zip_cons_cons, List.mem_cons] at hp
    rcases hp with z | z
    · rw [z]; exact h1 b List.mem_cons_self
    · exact zip_lt h2 p (by rw [List.drop_one, List.tail_cons]; exact z)
theorem s_ascending (l : List Str) (h : l.Pairwise (fun a b => strLt a b = true)) (hl : l.length ≤ 1000) (n : Nat) (st : Sto) : go (run tab (n + 1) F_is_ascending [.d (.tuple (l.map .str))]) st = .ok (.d (.bool true)) st := by
  rw [go_run _ T_is_ascending n _ _ ⟨rfl, by decide⟩, go_body]
  unfold D_is_ascending B_is_ascending
  simp only [den_cons, den_nil, denS, denE, denA, denO, denL, denI, denT, denTs, denC, go_bind, go_pure, go_bad, bindR_ok, bindR_bad, bindR_bindR, bindR_ite, go_ite, go_ofS, go_rdD, go_fzD, go_asB, go_asI, go_slot, slot_s, go_slotF, slotF_s, go_noX, noR_ok, noR_ite, go_opD, go_cmpB, go_cmp, go_isi, go_neg, go_rdL_nil, go_rdL_cons, go_fzL_nil, go_fzL_cons, go_bi1, go_bi2, go_slc, go_tup, go_disp, go_fz, go_seqL, go_seqT, go_enumL, go_enumT, go_zipTT, go_zipLL, go_zipTL, go_zipLT, Nat.sub_self, go_sclS, go_scsS, go_listT, go_listL, go_new, gc_d, gc_ite, take_len, take_app, go_newDc, chkDc_s, modDc_s, go_keyS, go_keyI, go_starT, go_starL, List.set_cons_zero, List.set_cons_succ, List.map_cons, List.map_nil, List.cons_append, List.nil_append, List.replicate_succ, List.replicate_zero, List.length_cons, List.length_nil, Tgs.len, wipeR, List.getD_cons_zero, List.getD_cons_succ, slcD, cut_1, ← List.map_drop, pairs_map]
  rw [go_comp_of (fun p : Str × Str => .tuple [.str p.1, .str p.2]) (fun _ => .bool true) (l.zip (l.drop 1)) ?h ?l]
  case h =>
    intro p hp
    simp only [den_cons, den_nil, denS, denE, denA, denO, denL, denI, denT, denTs, denC, go_bind, go_pure, go_bad, bindR_ok, bindR_bad, bindR_bindR, bindR_ite, go_ite, go_ofS, go_rdD, go_fzD, go_asB, go_asI, go_slot, slot_s, go_slotF, slotF_s, go_noX, noR_ok, noR_ite, go_opD, go_cmpB, go_cmp, go_isi, go_neg, go_rdL_nil, go_rdL_cons, go_fzL_nil, go_fzL_cons, go_bi1, go_bi2, go_slc, go_tup, go_disp, go_fz, go_seqL, go_seqT, go_enumL, go_enumT, go_zipTT, go_zipLL, go_zipTL, go_zipLT, Nat.sub_self, go_sclS, go_scsS, go_listT, go_listL, go_new, gc_d, gc_ite, take_len, take_app, go_newDc, chkDc_s, modDc_s, go_keyS, go_keyI, go_starT, go_starL, List.set_cons_zero, List.set_cons_succ, List.map_cons, List.map_nil, List.cons_append, List.nil_append, List.replicate_succ, List.replicate_zero, List.length_cons, List.length_nil, Tgs.len, wipeR, List.getD_cons_zero, List.getD_cons_succ, cmpD, zip_lt h p hp, if_true]
  case l => rw [List.length_zip]; unfold SZ; omega
  simp only [den_cons, den_nil, denS, denE, denA, denO, denL, denI, denT, denTs, denC, go_bind, go_pure, go_bad, bindR_ok, bindR_bad, bindR_bindR, bindR_ite, go_ite, go_ofS, go_rdD, go_fzD, go_asB, go_asI, go_slot, slot_s, go_slotF, slotF_s, go_noX, noR_ok, noR_ite, go_opD, go_cmpB, go_cmp, go_isi, go_neg, go_rdL_nil, go_rdL_cons, go_fzL_nil, go_fzL_cons, go_bi1, go_bi2, go_slc, go_tup, go_disp, go_fz, go_seqL, go_seqT, go_enumL, go_enumT, go_zipTT, go_zipLL, go_zipTL, go_zipLT, Nat.sub_self, go_sclS, go_scsS, go_listT, go_listL, go_new, gc_d, gc_ite, take_len, take_app, go_newDc, chkDc_s, modDc_s, go_keyS, go_keyI, go_starT, go_starL, List.set_cons_zero, List.set_cons_succ, List.map_cons, List.map_nil, List.cons_append, List.nil_append, List.replicate_succ, List.replicate_zero, List.length_cons, List.length_nil, Tgs.len, wipeR, List.getD_cons_zero, List.getD_cons_succ, all_true]
theorem s_letters (x : Str) (h : Nm x) (n : Nat) (st : Sto) : go (run tab (n + 1) F_is_letters [.d (.str x), .d (.int 1), .d (.int 8)]) st = .ok (.d (.bool true)) st := by
  rw [go_run _ T_is_letters n _ _ ⟨rfl, by decide⟩, go_body]
  unfold D_is_letters B_is_letters
  have hz := h.flat
  obtain ⟨h1, h2, h3, h4⟩ := h
  have e : x.length = x.cps.toList.length := rfl
  have c1 : cmpD .le (.int 1) (.int (x.length : Int)) = some true := by simp only [cmpD]; rw [e, decide_eq_true]; omega
  have c2 : cmpD .le (.int (x.length : Int)) (.int 8) = some true := by simp only [cmpD]; rw [e, decide_eq_true]; omega
  have sq : ∀ s, go (seqM (.d (.str x))) s = .ok (x.cps.toList.map fun c => .str ⟨#[c]⟩) s := fun s => by
    show go (ofO (if x.length ≤ SZ then _ else none)) s = _
    rw [if_pos hz]; rfl
  simp only [den_cons, den_nil, denS, denE, denA, denO, denL, denI, denT, denTs, denC, go_bind, go_pure, go_bad, bindR_ok, bindR_bad, bindR_bindR, bindR_ite, go_ite, go_ofS, go_rdD, go_fzD, go_asB, go_asI, go_slot, slot_s, go_slotF, slotF_s, go_noX, noR_ok, noR_ite, go_opD, go_cmpB, go_cmp, go_isi, go_neg, go_rdL_nil, go_rdL_cons, go_fzL_nil, go_fzL_cons, go_bi1, go_bi2, go_slc, go_tup, go_disp, go_fz, go_seqL, go_seqT, go_enumL, go_enumT, go_zipTT, go_zipLL, go_zipTL, go_zipLT, Nat.sub_self, go_sclS, go_scsS, go_listT, go_listL, go_new, gc_d, gc_ite, take_len, take_app, go_newDc, chkDc_s, modDc_s, go_keyS, go_keyI, go_starT, go_starL, List.set_cons_zero, List.set_cons_succ, List.map_cons, List.map_nil, List.cons_append, List.nil_append, List.replicate_succ, List.replicate_zero, List.length_cons, List.length_nil, Tgs.len, wipeR, List.getD_cons_zero, List.getD_cons_succ, isiD, len_S hz, c1, c2, sq, Bool.not_true, if_true, if_false, Bool.false_eq_true]
  rw [go_comp_of (fun c : Nat => .str ⟨#[c]⟩) (fun _ => .bool true) x.cps.toList ?h ?l]
  case h =>
    intro c hc
    simp only [den_cons, den_nil, denS, denE, denA, denO, denL, denI, denT, denTs, denC, go_bind, go_pure, go_bad, bindR_ok, bindR_bad, bindR_bindR, bindR_ite, go_ite, go_ofS, go_rdD, go_fzD, go_asB, go_asI, go_slot, slot_s, go_slotF, slotF_s, go_noX, noR_ok, noR_ite, go_opD, go_cmpB, go_cmp, go_isi, go_neg, go_rdL_nil, go_rdL_cons, go_fzL_nil, go_fzL_cons, go_bi1, go_bi2, go_slc, go_tup, go_disp, go_fz, go_seqL, go_seqT, go_enumL, go_enumT, go_zipTT, go_zipLL, go_zipTL, go_zipLT, Nat.sub_self, go_sclS, go_scsS, go_listT, go_listL, go_new, gc_d, gc_ite, take_len, take_app, go_newDc, chkDc_s, modDc_s, go_keyS, go_keyI, go_starT, go_starL, List.set_cons_zero, List.set_cons_succ, List.map_cons, List.map_nil, List.cons_append, List.nil_append, List.replicate_succ, List.replicate_zero, List.length_cons, List.length_nil, Tgs.len, wipeR, List.getD_cons_zero, List.getD_cons_succ, cmpD, abc_in c (h3 c hc), if_true]
  case l => unfold SZ; omega
  simp only [den_cons, den_nil, denS, denE, denA, denO, denL, denI, denT, denTs, denC, go_bind, go_pure, go_bad, bindR_ok, bindR_bad, bindR_bindR, bindR_ite, go_ite, go_ofS, go_rdD, go_fzD, go_asB, go_asI, go_slot, slot_s, go_slotF, slotF_s, go_noX, noR_ok, noR_ite, go_opD, go_cmpB, go_cmp, go_isi, go_neg, go_rdL_nil, go_rdL_cons, go_fzL_nil, go_fzL_cons, go_bi1, go_bi2, go_slc, go_tup, go_disp, go_fz, go_seqL, go_seqT, go_enumL, go_enumT, go_zipTT, go_zipLL, go_zipTL, go_zipLT, Nat.sub_self, go_sclS, go_scsS, go_listT, go_listL, go_new, gc_d, gc_ite, take_len, take_app, go_newDc, chkDc_s, modDc_s, go_keyS, go_keyI, go_starT, go_starL, List.set_cons_zero, List.set_cons_succ, List.map_cons, List.map_nil, List.cons_append, List.nil_append, List.replicate_succ, List.replicate_zero, List.length_cons, List.length_nil, Tgs.len, wipeR, List.getD_cons_zero, List.getD_cons_succ, all_true]
theorem s_name (x : Str) (h : Nm x) (n : Nat) (st : Sto) : go (run tab (n + 2) F_is_name [.d (.str x)]) st = .ok (.d (.bool true)) st := by
  rw [go_run _ T_is_name (n + 1) _ _ ⟨rfl, by decide⟩, go_body]
  unfold D_is_name B_is_name
  have c : cmpD .notin (.str x) (.tuple (wds.map .str)) = some true := by
    simp only [cmpD, inT_strs, Option.map_some, decide_eq_false h.2.2.2, Bool.not_false]
  have c2 := c
  unfold wds at c2
  simp only [List.map_cons, List.map_nil] at c2
  simp only [den_cons, den_nil, denS, denE, denA, denO, denL, denI, denT, denTs, denC, go_bind, go_pure, go_bad, bindR_ok, bindR_bad, bindR_bindR, bindR_ite, go_ite, go_ofS, go_rdD, go_fzD, go_asB, go_asI, go_slot, slot_s, go_slotF, slotF_s, go_noX, noR_ok, noR_ite, go_opD, go_cmpB, go_cmp, go_isi, go_neg, go_rdL_nil, go_rdL_cons, go_fzL_nil, go_fzL_cons, go_bi1, go_bi2, go_slc, go_tup, go_disp, go_fz, go_seqL, go_seqT, go_enumL, go_enumT, go_zipTT, go_zipLL, go_zipTL, go_zipLT, Nat.sub_self, go_sclS, go_scsS, go_listT, go_listL, go_new, gc_d, gc_ite, take_len, take_app, go_newDc, chkDc_s, modDc_s, go_keyS, go_keyI, go_starT, go_starL, List.set_cons_zero, List.set_cons_succ, List.map_cons, List.map_nil, List.cons_append, List.nil_append, List.replicate_succ, List.replicate_zero, List.length_cons, List.length_nil, Tgs.len, wipeR, List.getD_cons_zero, List.getD_cons_succ, s_letters x h, if_true, c2]
theorem s_one_of (x : Str) (l : List PyData) (r : Bool) (hr : inD (.str x) (.tuple l) = some r) (n : Nat) (st : Sto) : go (run tab (n + 1) F_is_one_of [.d (.str x), .d (.tuple l)]) st = .ok (.d (.bool r)) st := by
  rw [go_run _ T_is_one_of n _ _ ⟨rfl, by decide⟩, go_body]
  unfold D_is_one_of B_is_one_of
  simp only [den_cons, den_nil, denS, denE, denA, denO, denL, denI, denT, denTs, denC, go_bind, go_pure, go_bad, bindR_ok, bindR_bad, bindR_bindR, bindR_ite, go_ite, go_ofS, go_rdD, go_fzD, go_asB, go_asI, go_slot, slot_s, go_slotF, slotF_s, go_noX, noR_ok, noR_ite, go_opD, go_cmpB, go_cmp, go_isi, go_neg, go_rdL_nil, go_rdL_cons, go_fzL_nil, go_fzL_cons, go_bi1, go_bi2, go_slc, go_tup, go_disp, go_fz, go_seqL, go_seqT, go_enumL, go_enumT, go_zipTT, go_zipLL, go_zipTL, go_zipLT, Nat.sub_self, go_sclS, go_scsS, go_listT, go_listL, go_new, gc_d, gc_ite, take_len, take_app, go_newDc, chkDc_s, modDc_s, go_keyS, go_keyI, go_starT, go_starL, List.set_cons_zero, List.set_cons_succ, List.map_cons, List.map_nil, List.cons_append, List.nil_append, List.replicate_succ, List.replicate_zero, List.length_cons, List.length_nil, Tgs.len, wipeR, List.getD_cons_zero, List.getD_cons_succ, isiD, cmpD, hr, if_true]
theorem shp_strs {l : List Str} (h : ∀ x ∈ l, PyData.strOk x = true) : Shp 1 (.tuple (l.map .str)) := Shp.tuple fun d hd => by
  obtain ⟨x, hx, e⟩ := List.mem_map.mp hd
  exact e ▸ Shp.str 0 (h x hx)
def Wks (l : List Str) : Prop := l ≠ [] ∧ (∀ x ∈ l, Nm x) ∧ l.Pairwise (fun a b => strLt a b = true) ∧ l.length ≤ 9
theorem s_are_works (l : List Str) (h : Wks l) (n : Nat) (st : Sto) : go (run tab (n + 3) F_are_works [.d (.tuple (l.map .str))]) st = .ok (.d (.bool true)) st := by
  rw [go_run _ T_are_works (n + 2) _ _ ⟨rfl, by decide⟩, go_body]
  unfold D_are_works B_are_works
  obtain ⟨h1, h2, h3, h4⟩ := h
  have c : cmpD .ne (.tuple (l.map .str)) (.tuple []) = some true := by
    rw [cmp_neE (shp_strs fun x hx => (h2 x hx).strOk) (by decide), decide_eq_false (by simp [h1])]
    rfl
  simp only [den_cons, den_nil, denS, denE, denA, denO, denL, denI, denT, denTs, denC, go_bind, go_pure, go_bad, bindR_ok, bindR_bad, bindR_bindR, bindR_ite, go_ite, go_ofS, go_rdD, go_fzD, go_asB, go_asI, go_slot, slot_s, go_slotF, slotF_s, go_noX, noR_ok, noR_ite, go_opD, go_cmpB, go_cmp, go_isi, go_neg, go_rdL_nil, go_rdL_cons, go_fzL_nil, go_fzL_cons, go_bi1, go_bi2, go_slc, go_tup, go_disp, go_fz, go_seqL, go_seqT, go_enumL, go_enumT, go_zipTT, go_zipLL, go_zipTL, go_zipLT, Nat.sub_self, go_sclS, go_scsS, go_listT, go_listL, go_new, gc_d, gc_ite, take_len, take_app, go_newDc, chkDc_s, modDc_s, go_keyS, go_keyI, go_starT, go_starL, List.set_cons_zero, List.set_cons_succ, List.map_cons, List.map_nil, List.cons_append, List.nil_append, List.replicate_succ, List.replicate_zero, List.length_cons, List.length_nil, Tgs.len, wipeR, List.getD_cons_zero, List.getD_cons_succ, isiD, if_true, c, List.length_nil, Nat.zero_le]
  rw [go_comp_of (fun x : Str => .str x) (fun _ => .bool true) l ?h ?l]
  case h =>
    intro x hx
    simp only [den_cons, den_nil, denS, denE, denA, denO, denL, denI, denT, denTs, denC, go_bind, go_pure, go_bad, bindR_ok, bindR_bad, bindR_bindR, bindR_ite, go_ite, go_ofS, go_rdD, go_fzD, go_asB, go_asI, go_slot, slot_s, go_slotF, slotF_s, go_noX, noR_ok, noR_ite, go_opD, go_cmpB, go_cmp, go_isi, go_neg, go_rdL_nil, go_rdL_cons, go_fzL_nil, go_fzL_cons, go_bi1, go_bi2, go_slc, go_tup, go_disp, go_fz, go_seqL, go_seqT, go_enumL, go_enumT, go_zipTT, go_zipLL, go_zipTL, go_zipLT, Nat.sub_self, go_sclS, go_scsS, go_listT, go_listL, go_new, gc_d, gc_ite, take_len, take_app, go_newDc, chkDc_s, modDc_s, go_keyS, go_keyI, go_starT, go_starL, List.set_cons_zero, List.set_cons_succ, List.map_cons, List.map_nil, List.cons_append, List.nil_append, List.replicate_succ, List.replicate_zero, List.length_cons, List.length_nil, Tgs.len, wipeR, List.getD_cons_zero, List.getD_cons_succ, s_name x (h2 x hx), if_true]
  case l => unfold SZ; omega
  simp only [den_cons, den_nil, denS, denE, denA, denO, denL, denI, denT, denTs, denC, go_bind, go_pure, go_bad, bindR_ok, bindR_bad, bindR_bindR, bindR_ite, go_ite, go_ofS, go_rdD, go_fzD, go_asB, go_asI, go_slot, slot_s, go_slotF, slotF_s, go_noX, noR_ok, noR_ite, go_opD, go_cmpB, go_cmp, go_isi, go_neg, go_rdL_nil, go_rdL_cons, go_fzL_nil, go_fzL_cons, go_bi1, go_bi2, go_slc, go_tup, go_disp, go_fz, go_seqL, go_seqT, go_enumL, go_enumT, go_zipTT, go_zipLL, go_zipTL, go_zipLT, Nat.sub_self, go_sclS, go_scsS, go_listT, go_listL, go_new, gc_d, gc_ite, take_len, take_app, go_newDc, chkDc_s, modDc_s, go_keyS, go_keyI, go_starT, go_starL, List.set_cons_zero, List.set_cons_succ, List.map_cons, List.map_nil, List.cons_append, List.nil_append, List.replicate_succ, List.replicate_zero, List.length_cons, List.length_nil, Tgs.len, wipeR, List.getD_cons_zero, List.getD_cons_succ, all_true, s_ascending l h3 (by omega), if_true]
theorem s_weight (w : Int) (h : Wt w) (n : Nat) (st : Sto) : go (run tab (n + 3) F_is_weight [.d (.int w)]) st = .ok (.d (.bool true)) st := by
  rw [go_run _ T_is_weight (n + 2) _ _ ⟨rfl, by decide⟩, go_body]
  unfold D_is_weight B_is_weight
  obtain ⟨h1, h2, h3⟩ := h
  simp only [den_cons, den_nil, denS, denE, denA, denO, denL, denI, denT, denTs, denC, go_bind, go_pure, go_bad, bindR_ok, bindR_bad, bindR_bindR, bindR_ite, go_ite, go_ofS, go_rdD, go_fzD, go_asB, go_asI, go_slot, slot_s, go_slotF, slotF_s, go_noX, noR_ok, noR_ite, go_opD, go_cmpB, go_cmp, go_isi, go_neg, go_rdL_nil, go_rdL_cons, go_fzL_nil, go_fzL_cons, go_bi1, go_bi2, go_slc, go_tup, go_disp, go_fz, go_seqL, go_seqT, go_enumL, go_enumT, go_zipTT, go_zipLL, go_zipTL, go_zipLT, Nat.sub_self, go_sclS, go_scsS, go_listT, go_listL, go_new, gc_d, gc_ite, take_len, take_app, go_newDc, chkDc_s, modDc_s, go_keyS, go_keyI, go_starT, go_starL, List.set_cons_zero, List.set_cons_succ, List.map_cons, List.map_nil, List.cons_append, List.nil_append, List.replicate_succ, List.replicate_zero, List.length_cons, List.length_nil, Tgs.len, wipeR, List.getD_cons_zero, List.getD_cons_succ, s_number, cmp_neI, decide_eq_true h1, decide_eq_true h2, decide_eq_false h3, Bool.and_true, Bool.not_false, if_true]
theorem pk_in (b : Bool) : ∃ x : Str, pkD b = .str x ∧ inD (.str x) (.tuple [.str "best", .str "rank"]) = some true ∧ (x = if b then "best" else "rank") := by
  cases b
  · exact ⟨_, rfl, by decide +kernel, rfl⟩
  · exact ⟨_, rfl, by decide +kernel, rfl⟩
theorem s_pick (b : Bool) (k : Nat) (l : List Str) (h : Wks l) (h1 : 1 ≤ k) (h2 : k ≤ l.length) (n : Nat) (st : Sto) : go (run tab (n + 4) F_is_pick [.d (.tuple [pkD b, .int k, .tuple (l.map .str)])]) st = .ok (.d (.bool true)) st := by
  rw [go_run _ T_is_pick (n + 3) _ _ ⟨rfl, by decide⟩, go_body]
  unfold D_is_pick B_is_pick
  obtain ⟨x, e, hx, _⟩ := pk_in b
  have h1' : (1 : Int) ≤ (k : Int) := by omega
  have h2' : (k : Int) ≤ ((l.map PyData.str).length : Int) := by rw [List.length_map]; omega
  simp only [den_cons, den_nil, denS, denE, denA, denO, denL, denI, denT, denTs, denC, go_bind, go_pure, go_bad, bindR_ok, bindR_bad, bindR_bindR, bindR_ite, go_ite, go_ofS, go_rdD, go_fzD, go_asB, go_asI, go_slot, slot_s, go_slotF, slotF_s, go_noX, noR_ok, noR_ite, go_opD, go_cmpB, go_cmp, go_isi, go_neg, go_rdL_nil, go_rdL_cons, go_fzL_nil, go_fzL_cons, go_bi1, go_bi2, go_slc, go_tup, go_disp, go_fz, go_seqL, go_seqT, go_enumL, go_enumT, go_zipTT, go_zipLL, go_zipTL, go_zipLT, Nat.sub_self, go_sclS, go_scsS, go_listT, go_listL, go_new, gc_d, gc_ite, take_len, take_app, go_newDc, chkDc_s, modDc_s, go_keyS, go_keyI, go_starT, go_starL, List.set_cons_zero, List.set_cons_succ, List.map_cons, List.map_nil, List.cons_append, List.nil_append, List.replicate_succ, List.replicate_zero, List.length_cons, List.length_nil, Tgs.len, wipeR, List.getD_cons_zero, List.getD_cons_succ, s_tuple_of, e, idx_0, idx_1, idx_2, s_one_of x _ _ hx, s_are_works l h, len_T, s_number, decide_eq_true h1', decide_eq_true h2', Bool.and_self]
  rfl
def Ns (ns : List Str) : Prop := (∀ x ∈ ns, Nm x) ∧ ns.length ≤ 9
theorem Ns.wks {ns l : List Str} (h : Ns ns) (m : ∀ x ∈ l, x ∈ ns) (p : l.Pairwise fun a b => strLt a b = true) (e : l ≠ []) : Wks l := ⟨e, fun x hx => h.1 x (m x hx), p, Nat.le_trans (nodup_le (lt_nodup p) m) h.2⟩
theorem s_term {ns : List Str} {p : Int × Tr} {lv : Nat} (hw : Wt p.1) (n : Nat) (h : ∀ (n : Nat) (st : Sto), go (run tab (n + 2 * lv + 5) F_is_tree_form [.d p.2.d, .d (.int lv)]) st = .ok (.d (.bool true)) st) (st : Sto) : go (run tab (n + 2 * lv + 6) F_is_term [.d (tmD p), .d (.int lv)]) st = .ok (.d (.bool true)) st := by
  rw [go_run _ T_is_term (n + 2 * lv + 5) _ _ ⟨rfl, by decide⟩, go_body]
  unfold D_is_term B_is_term tmD
  simp only [den_cons, den_nil, denS, denE, denA, denO, denL, denI, denT, denTs, denC, go_bind, go_pure, go_bad, bindR_ok, bindR_bad, bindR_bindR, bindR_ite, go_ite, go_ofS, go_rdD, go_fzD, go_asB, go_asI, go_slot, slot_s, go_slotF, slotF_s, go_noX, noR_ok, noR_ite, go_opD, go_cmpB, go_cmp, go_isi, go_neg, go_rdL_nil, go_rdL_cons, go_fzL_nil, go_fzL_cons, go_bi1, go_bi2, go_slc, go_tup, go_disp, go_fz, go_seqL, go_seqT, go_enumL, go_enumT, go_zipTT, go_zipLL, go_zipTL, go_zipLT, Nat.sub_self, go_sclS, go_scsS, go_listT, go_listL, go_new, gc_d, gc_ite, take_len, take_app, go_newDc, chkDc_s, modDc_s, go_keyS, go_keyI, go_starT, go_starL, List.set_cons_zero, List.set_cons_succ, List.map_cons, List.map_nil, List.cons_append, List.nil_append, List.replicate_succ, List.replicate_zero, List.length_cons, List.length_nil, Tgs.len, wipeR, List.getD_cons_zero, List.getD_cons_succ, s_tuple_of, idx_0, idx_1, s_weight _ hw, h]
  rfl
theorem s_tree_form {ns : List Str} (hn : Ns ns) : ∀ (t : Tr) {lv : Nat}, t.Ok ns lv → ∀ (n : Nat) (st : Sto), go (run tab (n + 2 * lv + 5) F_is_tree_form [.d t.d, .d (.int lv)]) st = .ok (.d (.bool true)) st := by
  refine Tr.ind (fun x lv h n st => ?_) (fun b k xs lv h n st => ?_) (fun ts ih lv h n st => ?_)
  · rw [go_run _ T_is_tree_form (n + 2 * lv + 4) _ _ ⟨rfl, by decide⟩, go_body]
    unfold D_is_tree_form B_is_tree_form Tr.d
    have h0 : ¬ (lv : Int) = 0 := by have := h.2; omega
    simp only [den_cons, den_nil, denS, denE, denA, denO, denL, denI, denT, denTs, denC, go_bind, go_pure, go_bad, bindR_ok, bindR_bad, bindR_bindR, bindR_ite, go_ite, go_ofS, go_rdD, go_fzD, go_asB, go_asI, go_slot, slot_s, go_slotF, slotF_s, go_noX, noR_ok, noR_ite, go_opD, go_cmpB, go_cmp, go_isi, go_neg, go_rdL_nil, go_rdL_cons, go_fzL_nil, go_fzL_cons, go_bi1, go_bi2, go_slc, go_tup, go_disp, go_fz, go_seqL, go_seqT, go_enumL, go_enumT, go_zipTT, go_zipLL, go_zipTL, go_zipLT, Nat.sub_self, go_sclS, go_scsS, go_listT, go_listL, go_new, gc_d, gc_ite, take_len, take_app, go_newDc, chkDc_s, modDc_s, go_keyS, go_keyI, go_starT, go_starL, List.set_cons_zero, List.set_cons_succ, List.map_cons, List.map_nil, List.cons_append, List.nil_append, List.replicate_succ, List.replicate_zero, List.length_cons, List.length_nil, Tgs.len, wipeR, List.getD_cons_zero, List.getD_cons_succ, isiD, cmp_eqI, decide_eq_false h0, s_tuple_of, idx_0, idx_1, s_one_of _ _ _ o_ww, s_name x (hn.1 x h.1)]
    rfl
  · rw [go_run _ T_is_tree_form (n + 2 * lv + 4) _ _ ⟨rfl, by decide⟩, go_body]
    unfold D_is_tree_form B_is_tree_form Tr.d
    obtain ⟨h1, h2, h3, h4, h5⟩ := h
    have h0 : ¬ (lv : Int) = 0 := by omega
    have hk := hn.wks h3 h2 (by intro z; rw [z, List.length_nil] at h5; omega)
    simp only [den_cons, den_nil, denS, denE, denA, denO, denL, denI, denT, denTs, denC, go_bind, go_pure, go_bad, bindR_ok, bindR_bad, bindR_bindR, bindR_ite, go_ite, go_ofS, go_rdD, go_fzD, go_asB, go_asI, go_slot, slot_s, go_slotF, slotF_s, go_noX, noR_ok, noR_ite, go_opD, go_cmpB, go_cmp, go_isi, go_neg, go_rdL_nil, go_rdL_cons, go_fzL_nil, go_fzL_cons, go_bi1, go_bi2, go_slc, go_tup, go_disp, go_fz, go_seqL, go_seqT, go_enumL, go_enumT, go_zipTT, go_zipLL, go_zipTL, go_zipLT, Nat.sub_self, go_sclS, go_scsS, go_listT, go_listL, go_new, gc_d, gc_ite, take_len, take_app, go_newDc, chkDc_s, modDc_s, go_keyS, go_keyI, go_starT, go_starL, List.set_cons_zero, List.set_cons_succ, List.map_cons, List.map_nil, List.cons_append, List.nil_append, List.replicate_succ, List.replicate_zero, List.length_cons, List.length_nil, Tgs.len, wipeR, List.getD_cons_zero, List.getD_cons_succ, isiD, cmp_eqI, decide_eq_false h0, s_tuple_of, s_pick b k xs hk h4 h5]
    rfl
  · obtain ⟨h1, h2, h3, h4⟩ := h
    obtain ⟨m, rfl⟩ : ∃ m, lv = m + 1 := ⟨lv - 1, by omega⟩
    rw [go_run _ T_is_tree_form (n + 2 * (m + 1) + 4) _ _ ⟨rfl, by decide⟩, go_body]
    unfold D_is_tree_form B_is_tree_form Tr.d
    have h0 : ¬ ((m + 1 : Nat) : Int) = 0 := by omega
    have e : n + 2 * (m + 1) + 4 = n + 2 * m + 6 := by omega
    rw [e]
    have c1 : cmpD .le (.int 1) (.int (ts.ds.length : Int)) = some true := by
      rw [Ts.ds_l, List.length_map]; simp only [cmpD]; rw [decide_eq_true]; omega
    have c2 : cmpD .le (.int (ts.ds.length : Int)) (.int 9) = some true := by
      rw [Ts.ds_l, List.length_map]; simp only [cmpD]; rw [decide_eq_true]; omega
    have lv1 : binD .sub (.int ((m + 1 : Nat) : Int)) (.int 1) = some (.int (m : Int)) := by
      simp only [binD]; congr 2; omega
    simp only [den_cons, den_nil, denS, denE, denA, denO, denL, denI, denT, denTs, denC, go_bind, go_pure, go_bad, bindR_ok, bindR_bad, bindR_bindR, bindR_ite, go_ite, go_ofS, go_rdD, go_fzD, go_asB, go_asI, go_slot, slot_s, go_slotF, slotF_s, go_noX, noR_ok, noR_ite, go_opD, go_cmpB, go_cmp, go_isi, go_neg, go_rdL_nil, go_rdL_cons, go_fzL_nil, go_fzL_cons, go_bi1, go_bi2, go_slc, go_tup, go_disp, go_fz, go_seqL, go_seqT, go_enumL, go_enumT, go_zipTT, go_zipLL, go_zipTL, go_zipLT, Nat.sub_self, go_sclS, go_scsS, go_listT, go_listL, go_new, gc_d, gc_ite, take_len, take_app, go_newDc, chkDc_s, modDc_s, go_keyS, go_keyI, go_starT, go_starL, List.set_cons_zero, List.set_cons_succ, List.map_cons, List.map_nil, List.cons_append, List.nil_append, List.replicate_succ, List.replicate_zero, List.length_cons, List.length_nil, Tgs.len, wipeR, List.getD_cons_zero, List.getD_cons_succ, isiD, cmp_eqI, decide_eq_false h0, s_tuple_of, idx_0, idx_1, s_one_of _ _ _ o_sw, s_one_of _ _ _ o_ss, len_T, c1, c2, if_true, Bool.not_true, Bool.false_eq_true, if_false, Bool.not_false, lv1]
    rw [Ts.ds_l, go_comp_of tmD (fun _ => .bool true) ts.l ?h ?l]
    case h =>
      intro p hp
      obtain ⟨q1, q2⟩ := (Ts.ok_l ts).mp h4 p hp
      have q2 : p.2.Ok ns m := q2
      simp only [den_cons, den_nil, denS, denE, denA, denO, denL, denI, denT, denTs, denC, go_bind, go_pure, go_bad, bindR_ok, bindR_bad, bindR_bindR, bindR_ite, go_ite, go_ofS, go_rdD, go_fzD, go_asB, go_asI, go_slot, slot_s, go_slotF, slotF_s, go_noX, noR_ok, noR_ite, go_opD, go_cmpB, go_cmp, go_isi, go_neg, go_rdL_nil, go_rdL_cons, go_fzL_nil, go_fzL_cons, go_bi1, go_bi2, go_slc, go_tup, go_disp, go_fz, go_seqL, go_seqT, go_enumL, go_enumT, go_zipTT, go_zipLL, go_zipTL, go_zipLT, Nat.sub_self, go_sclS, go_scsS, go_listT, go_listL, go_new, gc_d, gc_ite, take_len, take_app, go_newDc, chkDc_s, modDc_s, go_keyS, go_keyI, go_starT, go_starL, List.set_cons_zero, List.set_cons_succ, List.map_cons, List.map_nil, List.cons_append, List.nil_append, List.replicate_succ, List.replicate_zero, List.length_cons, List.length_nil, Tgs.len, wipeR, List.getD_cons_zero, List.getD_cons_succ, lv1, s_term (ns := ns) q1 n (ih p hp q2), if_true]
    case l => unfold SZ; omega
    simp only [den_cons, den_nil, denS, denE, denA, denO, denL, denI, denT, denTs, denC, go_bind, go_pure, go_bad, bindR_ok, bindR_bad, bindR_bindR, bindR_ite, go_ite, go_ofS, go_rdD, go_fzD, go_asB, go_asI, go_slot, slot_s, go_slotF, slotF_s, go_noX, noR_ok, noR_ite, go_opD, go_cmpB, go_cmp, go_isi, go_neg, go_rdL_nil, go_rdL_cons, go_fzL_nil, go_fzL_cons, go_bi1, go_bi2, go_slc, go_tup, go_disp, go_fz, go_seqL, go_seqT, go_enumL, go_enumT, go_zipTT, go_zipLL, go_zipTL, go_zipLT, Nat.sub_self, go_sclS, go_scsS, go_listT, go_listL, go_new, gc_d, gc_ite, take_len, take_app, go_newDc, chkDc_s, modDc_s, go_keyS, go_keyI, go_starT, go_starL, List.set_cons_zero, List.set_cons_succ, List.map_cons, List.map_nil, List.cons_append, List.nil_append, List.replicate_succ, List.replicate_zero, List.length_cons, List.length_nil, Tgs.len, wipeR, List.getD_cons_zero, List.getD_cons_succ, all_true, List.length_map]
    rfl
def kids : Tr → List (Int × Tr)
  | .sum ts => ts.l
  | _ => []
theorem s_trees_in {ns : List Str} {lv : Nat} (t : Tr) (h : t.Ok ns lv) (n : Nat) (st : Sto) : go (run tab (n + 1) F_trees_in [.d t.d]) st = .ok (.d (.tuple ((kids t).map fun p => p.2.d))) st := by
  rw [go_run _ T_trees_in n _ _ ⟨rfl, by decide⟩, go_body]
  unfold D_trees_in B_trees_in
  cases t with
  | work x =>
    rw [d_work]
    unfold kids
    simp only [den_cons, den_nil, denS, denE, denA, denO, denL, denI, denT, denTs, denC, go_bind, go_pure, go_bad, bindR_ok, bindR_bad, bindR_bindR, bindR_ite, go_ite, go_ofS, go_rdD, go_fzD, go_asB, go_asI, go_slot, slot_s, go_slotF, slotF_s, go_noX, noR_ok, noR_ite, go_opD, go_cmpB, go_cmp, go_isi, go_neg, go_rdL_nil, go_rdL_cons, go_fzL_nil, go_fzL_cons, go_bi1, go_bi2, go_slc, go_tup, go_disp, go_fz, go_seqL, go_seqT, go_enumL, go_enumT, go_zipTT, go_zipLL, go_zipTL, go_zipLT, Nat.sub_self, go_sclS, go_scsS, go_listT, go_listL, go_new, gc_d, gc_ite, take_len, take_app, go_newDc, chkDc_s, modDc_s, go_keyS, go_keyI, go_starT, go_starL, List.set_cons_zero, List.set_cons_succ, List.map_cons, List.map_nil, List.cons_append, List.nil_append, List.replicate_succ, List.replicate_zero, List.length_cons, List.length_nil, Tgs.len, wipeR, List.getD_cons_zero, List.getD_cons_succ, idx_0, h_ws, Bool.false_eq_true, if_false, Nat.zero_le]
    rfl
  | pick b k xs =>
    rw [d_pick]
    unfold kids
    simp only [den_cons, den_nil, denS, denE, denA, denO, denL, denI, denT, denTs, denC, go_bind, go_pure, go_bad, bindR_ok, bindR_bad, bindR_bindR, bindR_ite, go_ite, go_ofS, go_rdD, go_fzD, go_asB, go_asI, go_slot, slot_s, go_slotF, slotF_s, go_noX, noR_ok, noR_ite, go_opD, go_cmpB, go_cmp, go_isi, go_neg, go_rdL_nil, go_rdL_cons, go_fzL_nil, go_fzL_cons, go_bi1, go_bi2, go_slc, go_tup, go_disp, go_fz, go_seqL, go_seqT, go_enumL, go_enumT, go_zipTT, go_zipLL, go_zipTL, go_zipLT, Nat.sub_self, go_sclS, go_scsS, go_listT, go_listL, go_new, gc_d, gc_ite, take_len, take_app, go_newDc, chkDc_s, modDc_s, go_keyS, go_keyI, go_starT, go_starL, List.set_cons_zero, List.set_cons_succ, List.map_cons, List.map_nil, List.cons_append, List.nil_append, List.replicate_succ, List.replicate_zero, List.length_cons, List.length_nil, Tgs.len, wipeR, List.getD_cons_zero, List.getD_cons_succ, idx_0, h_ps, Bool.false_eq_true, if_false, Nat.zero_le]
    rfl
  | sum ts =>
    rw [d_sum]
    unfold kids
    simp only [den_cons, den_nil, denS, denE, denA, denO, denL, denI, denT, denTs, denC, go_bind, go_pure, go_bad, bindR_ok, bindR_bad, bindR_bindR, bindR_ite, go_ite, go_ofS, go_rdD, go_fzD, go_asB, go_asI, go_slot, slot_s, go_slotF, slotF_s, go_noX, noR_ok, noR_ite, go_opD, go_cmpB, go_cmp, go_isi, go_neg, go_rdL_nil, go_rdL_cons, go_fzL_nil, go_fzL_cons, go_bi1, go_bi2, go_slc, go_tup, go_disp, go_fz, go_seqL, go_seqT, go_enumL, go_enumT, go_zipTT, go_zipLL, go_zipTL, go_zipLT, Nat.sub_self, go_sclS, go_scsS, go_listT, go_listL, go_new, gc_d, gc_ite, take_len, take_app, go_newDc, chkDc_s, modDc_s, go_keyS, go_keyI, go_starT, go_starL, List.set_cons_zero, List.set_cons_succ, List.map_cons, List.map_nil, List.cons_append, List.nil_append, List.replicate_succ, List.replicate_zero, List.length_cons, List.length_nil, Tgs.len, wipeR, List.getD_cons_zero, List.getD_cons_succ, idx_0, idx_1, h_ss, if_true]
    rw [go_comp_of tmD (fun p => p.2.d) ts.l ?h ?l]
    case h =>
      intro p hp
      unfold tmD
      simp only [den_cons, den_nil, denS, denE, denA, denO, denL, denI, denT, denTs, denC, go_bind, go_pure, go_bad, bindR_ok, bindR_bad, bindR_bindR, bindR_ite, go_ite, go_ofS, go_rdD, go_fzD, go_asB, go_asI, go_slot, slot_s, go_slotF, slotF_s, go_noX, noR_ok, noR_ite, go_opD, go_cmpB, go_cmp, go_isi, go_neg, go_rdL_nil, go_rdL_cons, go_fzL_nil, go_fzL_cons, go_bi1, go_bi2, go_slc, go_tup, go_disp, go_fz, go_seqL, go_seqT, go_enumL, go_enumT, go_zipTT, go_zipLL, go_zipTL, go_zipLT, Nat.sub_self, go_sclS, go_scsS, go_listT, go_listL, go_new, gc_d, gc_ite, take_len, take_app, go_newDc, chkDc_s, modDc_s, go_keyS, go_keyI, go_starT, go_starL, List.set_cons_zero, List.set_cons_succ, List.map_cons, List.map_nil, List.cons_append, List.nil_append, List.replicate_succ, List.replicate_zero, List.length_cons, List.length_nil, Tgs.len, wipeR, List.getD_cons_zero, List.getD_cons_succ, if_true]
    case l => have := h.2.2.1; unfold SZ; omega
    simp only [den_cons, den_nil, denS, denE, denA, denO, denL, denI, denT, denTs, denC, go_bind, go_pure, go_bad, bindR_ok, bindR_bad, bindR_bindR, bindR_ite, go_ite, go_ofS, go_rdD, go_fzD, go_asB, go_asI, go_slot, slot_s, go_slotF, slotF_s, go_noX, noR_ok, noR_ite, go_opD, go_cmpB, go_cmp, go_isi, go_neg, go_rdL_nil, go_rdL_cons, go_fzL_nil, go_fzL_cons, go_bi1, go_bi2, go_slc, go_tup, go_disp, go_fz, go_seqL, go_seqT, go_enumL, go_enumT, go_zipTT, go_zipLL, go_zipTL, go_zipLT, Nat.sub_self, go_sclS, go_scsS, go_listT, go_listL, go_new, gc_d, gc_ite, take_len, take_app, go_newDc, chkDc_s, modDc_s, go_keyS, go_keyI, go_starT, go_starL, List.set_cons_zero, List.set_cons_succ, List.map_cons, List.map_nil, List.cons_append, List.nil_append, List.replicate_succ, List.replicate_zero, List.length_cons, List.length_nil, Tgs.len, wipeR, List.getD_cons_zero, List.getD_cons_succ, biD]
theorem kids_ok {ns : List Str} {lv : Nat} {t : Tr} (h : t.Ok ns (lv + 1)) : ∀ p ∈ kids t, p.2.Ok ns lv := by
  cases t with
  | work x => exact fun p hp => nomatch hp
  | pick b k xs => exact fun p hp => nomatch hp
  | sum ts => exact fun p hp => ((Ts.ok_l ts).mp h.2.2.2 p hp).2
theorem kids_len {ns : List Str} {lv : Nat} {t : Tr} (h : t.Ok ns lv) : (kids t).length ≤ 9 := by
  cases t with
  | work x => exact Nat.zero_le _
  | pick b k xs => exact Nat.zero_le _
  | sum ts => exact h.2.2.1
theorem kids_nodes (t : Tr) : t.nodes = 1 + ((kids t).map fun p => p.2.nodes).sum := by
  cases t with
  | work x => rfl
  | pick b k xs => rfl
  | sum ts => show 1 + ts.nodes = _; rw [Ts.nodes_l]; rfl
theorem sum_nat {α : Type} (g : α → Nat) : ∀ l : List α, (l.map fun a => ((g a : Nat) : Int)).sum = (((l.map g).sum : Nat) : Int)
  | [] => rfl
  | x :: l => by simp [sum_nat g l]
theorem s_nodes_in {ns : List Str} : ∀ (lv : Nat) (t : Tr), t.Ok ns lv → ∀ (n : Nat) (st : Sto), go (run tab (n + lv + 1) F_nodes_in [.d t.d]) st = .ok (.d (.int t.nodes)) st
  | 0, t, h, n, st => absurd h.pos (by decide)
  | lv + 1, t, h, n, st => by
    rw [go_run _ T_nodes_in (n + (lv + 1)) _ _ ⟨rfl, by decide⟩, go_body]
    unfold D_nodes_in B_nodes_in
    have e : n + (lv + 1) = n + lv + 1 := rfl
    rw [e]
    simp only [den_cons, den_nil, denS, denE, denA, denO, denL, denI, denT, denTs, denC, go_bind, go_pure, go_bad, bindR_ok, bindR_bad, bindR_bindR, bindR_ite, go_ite, go_ofS, go_rdD, go_fzD, go_asB, go_asI, go_slot, slot_s, go_slotF, slotF_s, go_noX, noR_ok, noR_ite, go_opD, go_cmpB, go_cmp, go_isi, go_neg, go_rdL_nil, go_rdL_cons, go_fzL_nil, go_fzL_cons, go_bi1, go_bi2, go_slc, go_tup, go_disp, go_fz, go_seqL, go_seqT, go_enumL, go_enumT, go_zipTT, go_zipLL, go_zipTL, go_zipLT, Nat.sub_self, go_sclS, go_scsS, go_listT, go_listL, go_new, gc_d, gc_ite, take_len, take_app, go_newDc, chkDc_s, modDc_s, go_keyS, go_keyI, go_starT, go_starL, List.set_cons_zero, List.set_cons_succ, List.map_cons, List.map_nil, List.cons_append, List.nil_append, List.replicate_succ, List.replicate_zero, List.length_cons, List.length_nil, Tgs.len, wipeR, List.getD_cons_zero, List.getD_cons_succ, s_trees_in t h]
    rw [go_comp_of (fun p : Int × Tr => p.2.d) (fun p => .int p.2.nodes) (kids t) ?h ?l]
    case h =>
      intro p hp
      simp only [den_cons, den_nil, denS, denE, denA, denO, denL, denI, denT, denTs, denC, go_bind, go_pure, go_bad, bindR_ok, bindR_bad, bindR_bindR, bindR_ite, go_ite, go_ofS, go_rdD, go_fzD, go_asB, go_asI, go_slot, slot_s, go_slotF, slotF_s, go_noX, noR_ok, noR_ite, go_opD, go_cmpB, go_cmp, go_isi, go_neg, go_rdL_nil, go_rdL_cons, go_fzL_nil, go_fzL_cons, go_bi1, go_bi2, go_slc, go_tup, go_disp, go_fz, go_seqL, go_seqT, go_enumL, go_enumT, go_zipTT, go_zipLL, go_zipTL, go_zipLT, Nat.sub_self, go_sclS, go_scsS, go_listT, go_listL, go_new, gc_d, gc_ite, take_len, take_app, go_newDc, chkDc_s, modDc_s, go_keyS, go_keyI, go_starT, go_starL, List.set_cons_zero, List.set_cons_succ, List.map_cons, List.map_nil, List.cons_append, List.nil_append, List.replicate_succ, List.replicate_zero, List.length_cons, List.length_nil, Tgs.len, wipeR, List.getD_cons_zero, List.getD_cons_succ, s_nodes_in lv p.2 (kids_ok h p hp), if_true]
    case l => have := kids_len h; unfold SZ; omega
    simp only [den_cons, den_nil, denS, denE, denA, denO, denL, denI, denT, denTs, denC, go_bind, go_pure, go_bad, bindR_ok, bindR_bad, bindR_bindR, bindR_ite, go_ite, go_ofS, go_rdD, go_fzD, go_asB, go_asI, go_slot, slot_s, go_slotF, slotF_s, go_noX, noR_ok, noR_ite, go_opD, go_cmpB, go_cmp, go_isi, go_neg, go_rdL_nil, go_rdL_cons, go_fzL_nil, go_fzL_cons, go_bi1, go_bi2, go_slc, go_tup, go_disp, go_fz, go_seqL, go_seqT, go_enumL, go_enumT, go_zipTT, go_zipLL, go_zipTL, go_zipLT, Nat.sub_self, go_sclS, go_scsS, go_listT, go_listL, go_new, gc_d, gc_ite, take_len, take_app, go_newDc, chkDc_s, modDc_s, go_keyS, go_keyI, go_starT, go_starL, List.set_cons_zero, List.set_cons_succ, List.map_cons, List.map_nil, List.cons_append, List.nil_append, List.replicate_succ, List.replicate_zero, List.length_cons, List.length_nil, Tgs.len, wipeR, List.getD_cons_zero, List.getD_cons_succ, sum_ints (fun p : Int × Tr => (p.2.nodes : Int)), binD, sum_nat]
    rw [kids_nodes t]
    simp
theorem kids_works (t : Tr) : (kids t).flatMap (fun p => p.2.works) = match t with
    | .sum ts => ts.works
    | _ => [] := by
  cases t with
  | work x => rfl
  | pick b k xs => rfl
  | sum ts => show _ = ts.works; rw [Ts.works_l]; rfl
theorem works_len {ns : List Str} (hn : Ns ns) : ∀ (t : Tr) {lv : Nat}, t.Ok ns lv → t.works.length ≤ 9 * t.nodes := by
  refine Tr.ind (fun x lv h => by simp [Tr.works, Tr.nodes]) (fun b k xs lv h => ?_) (fun ts ih lv h => ?_)
  · have := nodup_le (lt_nodup h.2.1) h.2.2.1
    have := hn.2
    simp only [Tr.works, Tr.nodes]; omega
  · rw [Tr.works, Tr.nodes, Ts.works_l, Ts.nodes_l, List.length_flatMap]
    have key : ∀ l : List (Int × Tr), (∀ p ∈ l, p.2.works.length ≤ 9 * p.2.nodes) → (l.map fun p => p.2.works.length).sum ≤ 9 * (l.map fun p => p.2.nodes).sum := by
      intro l
      induction l with
      | nil => intro _; simp
      | cons p l ih =>
        intro h
        have h1 := h p List.mem_cons_self
        have h2 := ih fun q hq => h q (List.mem_cons_of_mem _ hq)
        simp only [List.map_cons, List.sum_cons]
        omega
    have := key ts.l fun p hp => ih p hp ((Ts.ok_l ts).mp h.2.2.2 p hp).2
    omega
theorem works_bd {ns : List Str} (hn : Ns ns) : ∀ (t : Tr) {lv : Nat}, t.Ok ns lv → t.works.length ≤ 9 ^ lv := by
  refine Tr.ind (fun x lv h => ?_) (fun b k xs lv h => ?_) (fun ts ih lv h => ?_)
  · have := Nat.pow_le_pow_right (n := 9) (by decide) h.2
    simp only [Tr.works, List.length_singleton]; omega
  · have := nodup_le (lt_nodup h.2.1) h.2.2.1
    have := hn.2
    have := Nat.pow_le_pow_right (n := 9) (by decide) h.1
    simp only [Tr.works]; omega
  · obtain ⟨h1, h2, h3, h4⟩ := h
    obtain ⟨m, rfl⟩ : ∃ m, lv = m + 1 := ⟨lv - 1, by omega⟩
    rw [Tr.works, Ts.works_l, List.length_flatMap]
    have key : ∀ l : List (Int × Tr), (∀ p ∈ l, p.2.works.length ≤ 9 ^ m) → (l.map fun p => p.2.works.length).sum ≤ l.length * 9 ^ m := by
      intro l
      induction l with
      | nil => intro _; simp
      | cons p l ih =>
        intro h
        have h1 := h p List.mem_cons_self
        have h2 := ih fun q hq => h q (List.mem_cons_of_mem _ hq)
        simp only [List.map_cons, List.sum_cons, List.length_cons, Nat.succ_mul]
        omega
    have := key ts.l fun p hp => ih p hp ((Ts.ok_l ts).mp h4 p hp).2
    have := Nat.mul_le_mul_right (9 ^ m) h3
    rw [Nat.pow_succ]
    omega
theorem s_all_works_in {ns : List Str} (hn : Ns ns) : ∀ (lv : Nat) (t : Tr), lv ≤ 4 → t.Ok ns lv → ∀ (n : Nat) (st : Sto), go (run tab (n + lv + 1) F_all_works_in [.d t.d]) st = .ok (.d (.list (t.works.map .str))) st
  | 0, t, _, h, n, st => absurd h.pos (by decide)
  | lv + 1, t, hv, h, n, st => by
    rw [go_run _ T_all_works_in (n + (lv + 1)) _ _ ⟨rfl, by decide⟩, go_body]
    unfold D_all_works_in B_all_works_in
    have e : n + (lv + 1) = n + lv + 1 := rfl
    rw [e]
    cases t with
    | work x =>
      rw [d_work, Tr.works]
      simp only [den_cons, den_nil, denS, denE, denA, denO, denL, denI, denT, denTs, denC, go_bind, go_pure, go_bad, bindR_ok, bindR_bad, bindR_bindR, bindR_ite, go_ite, go_ofS, go_rdD, go_fzD, go_asB, go_asI, go_slot, slot_s, go_slotF, slotF_s, go_noX, noR_ok, noR_ite, go_opD, go_cmpB, go_cmp, go_isi, go_neg, go_rdL_nil, go_rdL_cons, go_fzL_nil, go_fzL_cons, go_bi1, go_bi2, go_slc, go_tup, go_disp, go_fz, go_seqL, go_seqT, go_enumL, go_enumT, go_zipTT, go_zipLL, go_zipTL, go_zipLT, Nat.sub_self, go_sclS, go_scsS, go_listT, go_listL, go_new, gc_d, gc_ite, take_len, take_app, go_newDc, chkDc_s, modDc_s, go_keyS, go_keyI, go_starT, go_starL, List.set_cons_zero, List.set_cons_succ, List.map_cons, List.map_nil, List.cons_append, List.nil_append, List.replicate_succ, List.replicate_zero, List.length_cons, List.length_nil, Tgs.len, wipeR, List.getD_cons_zero, List.getD_cons_succ, idx_0, idx_1, h_ww, if_true]
      rfl
    | pick b k xs =>
      rw [d_pick, Tr.works]
      simp only [den_cons, den_nil, denS, denE, denA, denO, denL, denI, denT, denTs, denC, go_bind, go_pure, go_bad, bindR_ok, bindR_bad, bindR_bindR, bindR_ite, go_ite, go_ofS, go_rdD, go_fzD, go_asB, go_asI, go_slot, slot_s, go_slotF, slotF_s, go_noX, noR_ok, noR_ite, go_opD, go_cmpB, go_cmp, go_isi, go_neg, go_rdL_nil, go_rdL_cons, go_fzL_nil, go_fzL_cons, go_bi1, go_bi2, go_slc, go_tup, go_disp, go_fz, go_seqL, go_seqT, go_enumL, go_enumT, go_zipTT, go_zipLL, go_zipTL, go_zipLT, Nat.sub_self, go_sclS, go_scsS, go_listT, go_listL, go_new, gc_d, gc_ite, take_len, take_app, go_newDc, chkDc_s, modDc_s, go_keyS, go_keyI, go_starT, go_starL, List.set_cons_zero, List.set_cons_succ, List.map_cons, List.map_nil, List.cons_append, List.nil_append, List.replicate_succ, List.replicate_zero, List.length_cons, List.length_nil, Tgs.len, wipeR, List.getD_cons_zero, List.getD_cons_succ, idx_0, idx_2, h_pw, h_nps, if_true, Bool.false_eq_true, if_false]
    | sum ts =>
      have tr := s_trees_in (.sum ts) h (n + lv)
      have hb := works_bd hn (.sum ts) h
      have hb2 : (9 : Nat) ^ (lv + 1) ≤ 9 ^ 4 := Nat.pow_le_pow_right (by decide) hv
      rw [Tr.works] at hb
      rw [d_sum] at tr ⊢
      simp only [den_cons, den_nil, denS, denE, denA, denO, denL, denI, denT, denTs, denC, go_bind, go_pure, go_bad, bindR_ok, bindR_bad, bindR_bindR, bindR_ite, go_ite, go_ofS, go_rdD, go_fzD, go_asB, go_asI, go_slot, slot_s, go_slotF, slotF_s, go_noX, noR_ok, noR_ite, go_opD, go_cmpB, go_cmp, go_isi, go_neg, go_rdL_nil, go_rdL_cons, go_fzL_nil, go_fzL_cons, go_bi1, go_bi2, go_slc, go_tup, go_disp, go_fz, go_seqL, go_seqT, go_enumL, go_enumT, go_zipTT, go_zipLL, go_zipTL, go_zipLT, Nat.sub_self, go_sclS, go_scsS, go_listT, go_listL, go_new, gc_d, gc_ite, take_len, take_app, go_newDc, chkDc_s, modDc_s, go_keyS, go_keyI, go_starT, go_starL, List.set_cons_zero, List.set_cons_succ, List.map_cons, List.map_nil, List.cons_append, List.nil_append, List.replicate_succ, List.replicate_zero, List.length_cons, List.length_nil, Tgs.len, wipeR, List.getD_cons_zero, List.getD_cons_succ, idx_0, h_sw, h_nss, Bool.false_eq_true, if_false, Nat.zero_le, if_true, tr]
      refine rw_to_eq (rw_gc (rw_bind (rw_forT (fun p : Int × Tr => p.2.d) (fun rem ρ s => ∃ acc x, ρ = [some (.d (.tuple [.str "sum", .tuple (ts.l.map tmD)])), some (.r st.length), x] ∧ s = st ++ [.lst (acc.map .str)] ∧ acc ++ rem.flatMap (fun p => p.2.works) = ts.works) _ _ _ ?h0 ?hs ?hd)))
      case h0 => exact ⟨[], none, rfl, rfl, by rw [Ts.works_l]; rfl⟩
      case hs =>
        rintro p r ρ s hp ⟨acc, x, rfl, rfl, e⟩
        have e2 := congrArg List.length e
        simp only [List.flatMap_cons, List.length_append] at e2
        simp only [den_cons, den_nil, denS, denE, denA, denO, denL, denI, denT, denTs, denC, go_bind, go_pure, go_bad, bindR_ok, bindR_bad, bindR_bindR, bindR_ite, go_ite, go_ofS, go_rdD, go_fzD, go_asB, go_asI, go_slot, slot_s, go_slotF, slotF_s, go_noX, noR_ok, noR_ite, go_opD, go_cmpB, go_cmp, go_isi, go_neg, go_rdL_nil, go_rdL_cons, go_fzL_nil, go_fzL_cons, go_bi1, go_bi2, go_slc, go_tup, go_disp, go_fz, go_seqL, go_seqT, go_enumL, go_enumT, go_zipTT, go_zipLL, go_zipTL, go_zipLT, Nat.sub_self, go_sclS, go_scsS, go_listT, go_listL, go_new, gc_d, gc_ite, take_len, take_app, go_newDc, chkDc_s, modDc_s, go_keyS, go_keyI, go_starT, go_starL, List.set_cons_zero, List.set_cons_succ, List.map_cons, List.map_nil, List.cons_append, List.nil_append, List.replicate_succ, List.replicate_zero, List.length_cons, List.length_nil, Tgs.len, wipeR, List.getD_cons_zero, List.getD_cons_succ, chkL_s, go_chk1, modL_s, s_all_works_in hn lv p.2 (by omega) (kids_ok h p hp), go_mod1]
        rw [ext_ok (by simp only [List.length_map]; unfold SZ; omega)]
        exact ⟨acc ++ p.2.works, _, rfl, by rw [List.map_append], by rw [← e, List.flatMap_cons, List.append_assoc]⟩
      case hd =>
        rintro ρ s ⟨acc, x, rfl, rfl, e⟩
        rw [List.flatMap_nil, List.append_nil] at e
        simp only [den_cons, den_nil, denS, denE, denA, denO, denL, denI, denT, denTs, denC, go_bind, go_pure, go_bad, bindR_ok, bindR_bad, bindR_bindR, bindR_ite, go_ite, go_ofS, go_rdD, go_fzD, go_asB, go_asI, go_slot, slot_s, go_slotF, slotF_s, go_noX, noR_ok, noR_ite, go_opD, go_cmpB, go_cmp, go_isi, go_neg, go_rdL_nil, go_rdL_cons, go_fzL_nil, go_fzL_cons, go_bi1, go_bi2, go_slc, go_tup, go_disp, go_fz, go_seqL, go_seqT, go_enumL, go_enumT, go_zipTT, go_zipLL, go_zipTL, go_zipLT, Nat.sub_self, go_sclS, go_scsS, go_listT, go_listL, go_new, gc_d, gc_ite, take_len, take_app, go_newDc, chkDc_s, modDc_s, go_keyS, go_keyI, go_starT, go_starL, List.set_cons_zero, List.set_cons_succ, List.map_cons, List.map_nil, List.cons_append, List.nil_append, List.replicate_succ, List.replicate_zero, List.length_cons, List.length_nil, Tgs.len, wipeR, List.getD_cons_zero, List.getD_cons_succ, go_fzm, go_fz1]
        rw [e]
        exact ⟨rfl, take_app _ _⟩
theorem s_works_in {ns : List Str} (hn : Ns ns) {lv : Nat} (t : Tr) (hv : lv ≤ 4) (h : t.Ok ns lv) (hk : t.nodes ≤ 14) (n : Nat) (st : Sto) : go (run tab (n + lv + 2) F_works_in [.d t.d]) st = .ok (.d (.tuple ((setS t.works).map .str))) st := by
  rw [go_run _ T_works_in (n + lv + 1) _ _ ⟨rfl, by decide⟩, go_body]
  unfold D_works_in B_works_in
  have := works_len hn t h
  simp only [den_cons, den_nil, denS, denE, denA, denO, denL, denI, denT, denTs, denC, go_bind, go_pure, go_bad, bindR_ok, bindR_bad, bindR_bindR, bindR_ite, go_ite, go_ofS, go_rdD, go_fzD, go_asB, go_asI, go_slot, slot_s, go_slotF, slotF_s, go_noX, noR_ok, noR_ite, go_opD, go_cmpB, go_cmp, go_isi, go_neg, go_rdL_nil, go_rdL_cons, go_fzL_nil, go_fzL_cons, go_bi1, go_bi2, go_slc, go_tup, go_disp, go_fz, go_seqL, go_seqT, go_enumL, go_enumT, go_zipTT, go_zipLL, go_zipTL, go_zipLT, Nat.sub_self, go_sclS, go_scsS, go_listT, go_listL, go_new, gc_d, gc_ite, take_len, take_app, go_newDc, chkDc_s, modDc_s, go_keyS, go_keyI, go_starT, go_starL, List.set_cons_zero, List.set_cons_succ, List.map_cons, List.map_nil, List.cons_append, List.nil_append, List.replicate_succ, List.replicate_zero, List.length_cons, List.length_nil, Tgs.len, wipeR, List.getD_cons_zero, List.getD_cons_succ, s_all_works_in hn lv t hv h, go_setS (l := t.works) (by omega), tup_L]
def RTr (ns : List Str) (t : Tr) : Prop := t.Ok ns 4 ∧ t.nodes ≤ 14
theorem setS_le {ns : List Str} (hn : Ns ns) {t : Tr} {lv : Nat} (h : t.Ok ns lv) : (setS t.works).length ≤ 9 := Nat.le_trans (nodup_le (lt_nodup (setS_pw _)) fun x hx => t.works_in h x (setS_mem.mp hx)) hn.2
theorem s_is_tree {ns : List Str} (hn : Ns ns) (t : Tr) (h : RTr ns t) (n : Nat) (st : Sto) : go (run tab (n + 14) F_is_tree [.d t.d]) st = .ok (.d (.bool true)) st := by
  rw [go_run _ T_is_tree (n + 13) _ _ ⟨rfl, by decide⟩, go_body]
  unfold D_is_tree B_is_tree
  have q1 : ∀ st, go (run tab (n + 13) F_is_tree_form [.d t.d, .d (.int 4)]) st = .ok (.d (.bool true)) st := fun st => s_tree_form hn t h.1 n st
  have q2 : ∀ st, go (run tab (n + 13) F_nodes_in [.d t.d]) st = .ok (.d (.int t.nodes)) st := fun st => s_nodes_in 4 t h.1 (n + 8) st
  have q3 : ∀ st, go (run tab (n + 13) F_works_in [.d t.d]) st = .ok (.d (.tuple ((setS t.works).map .str))) st := fun st => s_works_in hn t (Nat.le_refl 4) h.1 h.2 (n + 7) st
  have c1 : cmpD .gt (.int (t.nodes : Int)) (.int 14) = some false := by
    have := h.2
    simp only [cmpD]; rw [decide_eq_false (by omega)]
  have c2 : cmpD .le (.int (((setS t.works).map PyData.str).length : Int)) (.int 9) = some true := by
    have := setS_le hn h.1
    rw [List.length_map]
    simp only [cmpD]; rw [decide_eq_true (by omega)]
  simp only [den_cons, den_nil, denS, denE, denA, denO, denL, denI, denT, denTs, denC, go_bind, go_pure, go_bad, bindR_ok, bindR_bad, bindR_bindR, bindR_ite, go_ite, go_ofS, go_rdD, go_fzD, go_asB, go_asI, go_slot, slot_s, go_slotF, slotF_s, go_noX, noR_ok, noR_ite, go_opD, go_cmpB, go_cmp, go_isi, go_neg, go_rdL_nil, go_rdL_cons, go_fzL_nil, go_fzL_cons, go_bi1, go_bi2, go_slc, go_tup, go_disp, go_fz, go_seqL, go_seqT, go_enumL, go_enumT, go_zipTT, go_zipLL, go_zipTL, go_zipLT, Nat.sub_self, go_sclS, go_scsS, go_listT, go_listL, go_new, gc_d, gc_ite, take_len, take_app, go_newDc, chkDc_s, modDc_s, go_keyS, go_keyI, go_starT, go_starL, List.set_cons_zero, List.set_cons_succ, List.map_cons, List.map_nil, List.cons_append, List.nil_append, List.replicate_succ, List.replicate_zero, List.length_cons, List.length_nil, Tgs.len, wipeR, List.getD_cons_zero, List.getD_cons_succ, q1, q2, q3, c1, c2, len_T, Bool.not_true, Bool.false_eq_true, if_false]
theorem pick_row (b : Bool) (k : Nat) (row : List Int) (h1 : 1 ≤ k) (h2 : k ≤ row.length) (s : Sto) : idxD (.list (row.map .int)) (.int ((k - 1 : Nat) : Int)) = some (.int (pickV false k row)) := by
  refine idxL_at _ _ ?_
  rw [List.getElem?_map, List.getElem?_eq_getElem (by omega)]
  simp only [Option.map_some, pickV, List.getD_eq_getElem?_getD, Bool.false_eq_true, if_false]
  rw [List.getElem?_eq_getElem (by omega)]
  rfl
theorem s_value_of {ns : List Str} {kvs : List (PyData × PyData)} {f : Str → Int} : ∀ (lv : Nat) (t : Tr), t.Ok ns lv → ns.length ≤ 9 → (∀ x ∈ t.works, getKey (.str x) kvs = some (.int (f x))) → ∀ (n : Nat) (st : Sto), go (run tab (n + lv) F_value_of [.d t.d, .d (.dict kvs)]) st = .ok (.d (.int (t.val f))) st
  | 0, t, h, _, _, n, st => absurd h.pos (by decide)
  | lv + 1, t, h, hn, hf, n, st => by
    show go (run tab (n + lv + 1) _ _) st = _
    rw [go_run _ T_value_of (n + lv) _ _ ⟨rfl, by decide⟩, go_body]
    unfold D_value_of B_value_of
    cases t with
    | work x =>
      rw [d_work, Tr.val]
      simp only [den_cons, den_nil, denS, denE, denA, denO, denL, denI, denT, denTs, denC, go_bind, go_pure, go_bad, bindR_ok, bindR_bad, bindR_bindR, bindR_ite, go_ite, go_ofS, go_rdD, go_fzD, go_asB, go_asI, go_slot, slot_s, go_slotF, slotF_s, go_noX, noR_ok, noR_ite, go_opD, go_cmpB, go_cmp, go_isi, go_neg, go_rdL_nil, go_rdL_cons, go_fzL_nil, go_fzL_cons, go_bi1, go_bi2, go_slc, go_tup, go_disp, go_fz, go_seqL, go_seqT, go_enumL, go_enumT, go_zipTT, go_zipLL, go_zipTL, go_zipLT, Nat.sub_self, go_sclS, go_scsS, go_listT, go_listL, go_new, gc_d, gc_ite, take_len, take_app, go_newDc, chkDc_s, modDc_s, go_keyS, go_keyI, go_starT, go_starL, List.set_cons_zero, List.set_cons_succ, List.map_cons, List.map_nil, List.cons_append, List.nil_append, List.replicate_succ, List.replicate_zero, List.length_cons, List.length_nil, Tgs.len, wipeR, List.getD_cons_zero, List.getD_cons_succ, idx_0, idx_1, h_ww, if_true, idx_dict, hf x (by simp [Tr.works])]
    | pick b k xs =>
      obtain ⟨h1, h2, h3, h4, h5⟩ := h
      have hl : xs.length ≤ 9 := Nat.le_trans (nodup_le (lt_nodup h2) h3) hn
      rw [d_pick, Tr.val]
      simp only [den_cons, den_nil, denS, denE, denA, denO, denL, denI, denT, denTs, denC, go_bind, go_pure, go_bad, bindR_ok, bindR_bad, bindR_bindR, bindR_ite, go_ite, go_ofS, go_rdD, go_fzD, go_asB, go_asI, go_slot, slot_s, go_slotF, slotF_s, go_noX, noR_ok, noR_ite, go_opD, go_cmpB, go_cmp, go_isi, go_neg, go_rdL_nil, go_rdL_cons, go_fzL_nil, go_fzL_cons, go_bi1, go_bi2, go_slc, go_tup, go_disp, go_fz, go_seqL, go_seqT, go_enumL, go_enumT, go_zipTT, go_zipLL, go_zipTL, go_zipLT, Nat.sub_self, go_sclS, go_scsS, go_listT, go_listL, go_new, gc_d, gc_ite, take_len, take_app, go_newDc, chkDc_s, modDc_s, go_keyS, go_keyI, go_starT, go_starL, List.set_cons_zero, List.set_cons_succ, List.map_cons, List.map_nil, List.cons_append, List.nil_append, List.replicate_succ, List.replicate_zero, List.length_cons, List.length_nil, Tgs.len, wipeR, List.getD_cons_zero, List.getD_cons_succ, idx_0, idx_1, idx_2, h_pw, h_ps, h_pb, Bool.false_eq_true, if_false]
      rw [go_comp_of (fun x : Str => .str x) (fun x => .int (f x)) xs ?h ?l]
      case h =>
        intro x hx
        simp only [den_cons, den_nil, denS, denE, denA, denO, denL, denI, denT, denTs, denC, go_bind, go_pure, go_bad, bindR_ok, bindR_bad, bindR_bindR, bindR_ite, go_ite, go_ofS, go_rdD, go_fzD, go_asB, go_asI, go_slot, slot_s, go_slotF, slotF_s, go_noX, noR_ok, noR_ite, go_opD, go_cmpB, go_cmp, go_isi, go_neg, go_rdL_nil, go_rdL_cons, go_fzL_nil, go_fzL_cons, go_bi1, go_bi2, go_slc, go_tup, go_disp, go_fz, go_seqL, go_seqT, go_enumL, go_enumT, go_zipTT, go_zipLL, go_zipTL, go_zipLT, Nat.sub_self, go_sclS, go_scsS, go_listT, go_listL, go_new, gc_d, gc_ite, take_len, take_app, go_newDc, chkDc_s, modDc_s, go_keyS, go_keyI, go_starT, go_starL, List.set_cons_zero, List.set_cons_succ, List.map_cons, List.map_nil, List.cons_append, List.nil_append, List.replicate_succ, List.replicate_zero, List.length_cons, List.length_nil, Tgs.len, wipeR, List.getD_cons_zero, List.getD_cons_succ, idx_dict, hf x (by rw [Tr.works]; exact hx), if_true]
      case l => unfold SZ; omega
      have e : (xs.map fun x => PyData.int (f x)) = (xs.map f).map .int := by rw [List.map_map]; rfl
      have sb : binD .sub (.int (k : Int)) (.int 1) = some (.int ((k - 1 : Nat) : Int)) := by simp only [binD]; congr 2; omega
      have pr := pick_row b k (dnI (xs.map f)) h4 (by rw [dn_len, List.length_map]; exact h5) st
      simp only [den_cons, den_nil, denS, denE, denA, denO, denL, denI, denT, denTs, denC, go_bind, go_pure, go_bad, bindR_ok, bindR_bad, bindR_bindR, bindR_ite, go_ite, go_ofS, go_rdD, go_fzD, go_asB, go_asI, go_slot, slot_s, go_slotF, slotF_s, go_noX, noR_ok, noR_ite, go_opD, go_cmpB, go_cmp, go_isi, go_neg, go_rdL_nil, go_rdL_cons, go_fzL_nil, go_fzL_cons, go_bi1, go_bi2, go_slc, go_tup, go_disp, go_fz, go_seqL, go_seqT, go_enumL, go_enumT, go_zipTT, go_zipLL, go_zipTL, go_zipLT, Nat.sub_self, go_sclS, go_scsS, go_listT, go_listL, go_new, gc_d, gc_ite, take_len, take_app, go_newDc, chkDc_s, modDc_s, go_keyS, go_keyI, go_starT, go_starL, List.set_cons_zero, List.set_cons_succ, List.map_cons, List.map_nil, List.cons_append, List.nil_append, List.replicate_succ, List.replicate_zero, List.length_cons, List.length_nil, Tgs.len, wipeR, List.getD_cons_zero, List.getD_cons_succ, bindR_ok, e, go_sortL (rev := true) (okSort_ints (l := xs.map f) (by rw [List.length_map]; unfold SZ; omega)), sort_dn, slc_hiL, ← List.map_take, sum_intL, sb, pr]
      cases b <;> rfl
    | sum ts =>
      rw [d_sum, Tr.val, Ts.val_l]
      simp only [den_cons, den_nil, denS, denE, denA, denO, denL, denI, denT, denTs, denC, go_bind, go_pure, go_bad, bindR_ok, bindR_bad, bindR_bindR, bindR_ite, go_ite, go_ofS, go_rdD, go_fzD, go_asB, go_asI, go_slot, slot_s, go_slotF, slotF_s, go_noX, noR_ok, noR_ite, go_opD, go_cmpB, go_cmp, go_isi, go_neg, go_rdL_nil, go_rdL_cons, go_fzL_nil, go_fzL_cons, go_bi1, go_bi2, go_slc, go_tup, go_disp, go_fz, go_seqL, go_seqT, go_enumL, go_enumT, go_zipTT, go_zipLL, go_zipTL, go_zipLT, Nat.sub_self, go_sclS, go_scsS, go_listT, go_listL, go_new, gc_d, gc_ite, take_len, take_app, go_newDc, chkDc_s, modDc_s, go_keyS, go_keyI, go_starT, go_starL, List.set_cons_zero, List.set_cons_succ, List.map_cons, List.map_nil, List.cons_append, List.nil_append, List.replicate_succ, List.replicate_zero, List.length_cons, List.length_nil, Tgs.len, wipeR, List.getD_cons_zero, List.getD_cons_succ, idx_0, idx_1, h_sw, h_ss, Bool.false_eq_true, if_false, if_true]
      rw [go_comp_of tmD (fun p => .int (p.1 * p.2.val f)) ts.l ?h ?l]
      case h =>
        intro p hp
        obtain ⟨q1, q2⟩ := (Ts.ok_l ts).mp h.2.2.2 p hp
        have q2 : p.2.Ok ns lv := q2
        have sm : binD .mul (.int p.1) (.int (p.2.val f)) = some (.int (p.1 * p.2.val f)) := by
          have : small p.1 = true := by
            obtain ⟨w1, w2, _⟩ := q1
            unfold small
            simp only [Bool.and_eq_true, decide_eq_true_eq]
            omega
          simp only [binD, this, Bool.true_or, if_true]
        unfold tmD
        simp only [den_cons, den_nil, denS, denE, denA, denO, denL, denI, denT, denTs, denC, go_bind, go_pure, go_bad, bindR_ok, bindR_bad, bindR_bindR, bindR_ite, go_ite, go_ofS, go_rdD, go_fzD, go_asB, go_asI, go_slot, slot_s, go_slotF, slotF_s, go_noX, noR_ok, noR_ite, go_opD, go_cmpB, go_cmp, go_isi, go_neg, go_rdL_nil, go_rdL_cons, go_fzL_nil, go_fzL_cons, go_bi1, go_bi2, go_slc, go_tup, go_disp, go_fz, go_seqL, go_seqT, go_enumL, go_enumT, go_zipTT, go_zipLL, go_zipTL, go_zipLT, Nat.sub_self, go_sclS, go_scsS, go_listT, go_listL, go_new, gc_d, gc_ite, take_len, take_app, go_newDc, chkDc_s, modDc_s, go_keyS, go_keyI, go_starT, go_starL, List.set_cons_zero, List.set_cons_succ, List.map_cons, List.map_nil, List.cons_append, List.nil_append, List.replicate_succ, List.replicate_zero, List.length_cons, List.length_nil, Tgs.len, wipeR, List.getD_cons_zero, List.getD_cons_succ, s_value_of lv p.2 q2 hn (fun x hx => hf x (by rw [Tr.works, Ts.works_l, List.mem_flatMap]; exact ⟨p, hp, hx⟩)), sm, if_true]
      case l => have := h.2.2.1; unfold SZ; omega
      simp only [den_cons, den_nil, denS, denE, denA, denO, denL, denI, denT, denTs, denC, go_bind, go_pure, go_bad, bindR_ok, bindR_bad, bindR_bindR, bindR_ite, go_ite, go_ofS, go_rdD, go_fzD, go_asB, go_asI, go_slot, slot_s, go_slotF, slotF_s, go_noX, noR_ok, noR_ite, go_opD, go_cmpB, go_cmp, go_isi, go_neg, go_rdL_nil, go_rdL_cons, go_fzL_nil, go_fzL_cons, go_bi1, go_bi2, go_slc, go_tup, go_disp, go_fz, go_seqL, go_seqT, go_enumL, go_enumT, go_zipTT, go_zipLL, go_zipTL, go_zipLT, Nat.sub_self, go_sclS, go_scsS, go_listT, go_listL, go_new, gc_d, gc_ite, take_len, take_app, go_newDc, chkDc_s, modDc_s, go_keyS, go_keyI, go_starT, go_starL, List.set_cons_zero, List.set_cons_succ, List.map_cons, List.map_nil, List.cons_append, List.nil_append, List.replicate_succ, List.replicate_zero, List.length_cons, List.length_nil, Tgs.len, wipeR, List.getD_cons_zero, List.getD_cons_succ, sum_ints (fun p : Int × Tr => p.1 * p.2.val f)]
theorem s_greatest_divisor (a b : Int) (hb : b.natAbs < 1073741824) (n : Nat) (st : Sto) : go (run tab (n + 1) F_greatest_divisor [.d (.int a), .d (.int b)]) st = .ok (.d (.int (Nat.gcd a.natAbs b.natAbs : Nat))) st := by
  rw [go_run _ T_greatest_divisor n _ _ ⟨rfl, by decide⟩, go_body]
  unfold D_greatest_divisor B_greatest_divisor
  simp only [den_cons, den_nil, denS, denE, denA, denO, denL, denI, denT, denTs, denC, go_bind, go_pure, go_bad, bindR_ok, bindR_bad, bindR_bindR, bindR_ite, go_ite, go_ofS, go_rdD, go_fzD, go_asB, go_asI, go_slot, slot_s, go_slotF, slotF_s, go_noX, noR_ok, noR_ite, go_opD, go_cmpB, go_cmp, go_isi, go_neg, go_rdL_nil, go_rdL_cons, go_fzL_nil, go_fzL_cons, go_bi1, go_bi2, go_slc, go_tup, go_disp, go_fz, go_seqL, go_seqT, go_enumL, go_enumT, go_zipTT, go_zipLL, go_zipTL, go_zipLT, Nat.sub_self, go_sclS, go_scsS, go_listT, go_listL, go_new, gc_d, gc_ite, take_len, take_app, go_newDc, chkDc_s, modDc_s, go_keyS, go_keyI, go_starT, go_starL, List.set_cons_zero, List.set_cons_succ, List.map_cons, List.map_nil, List.cons_append, List.nil_append, List.replicate_succ, List.replicate_zero, List.length_cons, List.length_nil, Tgs.len, wipeR, List.getD_cons_zero, List.getD_cons_succ, abs_nat]
  rw [wh_gcd (fun a b : Nat => [some (.d (.int a)), some (.d (.int b))]) 1073741824 ?hc ?hb WT a.natAbs b.natAbs (by unfold WT; omega) hb]
  case hc =>
    intro a b
    simp only [den_cons, den_nil, denS, denE, denA, denO, denL, denI, denT, denTs, denC, go_bind, go_pure, go_bad, bindR_ok, bindR_bad, bindR_bindR, bindR_ite, go_ite, go_ofS, go_rdD, go_fzD, go_asB, go_asI, go_slot, slot_s, go_slotF, slotF_s, go_noX, noR_ok, noR_ite, go_opD, go_cmpB, go_cmp, go_isi, go_neg, go_rdL_nil, go_rdL_cons, go_fzL_nil, go_fzL_cons, go_bi1, go_bi2, go_slc, go_tup, go_disp, go_fz, go_seqL, go_seqT, go_enumL, go_enumT, go_zipTT, go_zipLL, go_zipTL, go_zipLT, Nat.sub_self, go_sclS, go_scsS, go_listT, go_listL, go_new, gc_d, gc_ite, take_len, take_app, go_newDc, chkDc_s, modDc_s, go_keyS, go_keyI, go_starT, go_starL, List.set_cons_zero, List.set_cons_succ, List.map_cons, List.map_nil, List.cons_append, List.nil_append, List.replicate_succ, List.replicate_zero, List.length_cons, List.length_nil, Tgs.len, wipeR, List.getD_cons_zero, List.getD_cons_succ, cmpD, Int.natCast_pos]
  case hb =>
    intro a b h h2
    have : binD .mod (.int (a : Int)) (.int (b : Int)) = some (.int ((a % b : Nat) : Int)) := by
      simp only [binD]
      rw [if_pos (by omega), Int.ofNat_fmod]
    simp only [den_cons, den_nil, denS, denE, denA, denO, denL, denI, denT, denTs, denC, go_bind, go_pure, go_bad, bindR_ok, bindR_bad, bindR_bindR, bindR_ite, go_ite, go_ofS, go_rdD, go_fzD, go_asB, go_asI, go_slot, slot_s, go_slotF, slotF_s, go_noX, noR_ok, noR_ite, go_opD, go_cmpB, go_cmp, go_isi, go_neg, go_rdL_nil, go_rdL_cons, go_fzL_nil, go_fzL_cons, go_bi1, go_bi2, go_slc, go_tup, go_disp, go_fz, go_seqL, go_seqT, go_enumL, go_enumT, go_zipTT, go_zipLL, go_zipTL, go_zipLT, Nat.sub_self, go_sclS, go_scsS, go_listT, go_listL, go_new, gc_d, gc_ite, take_len, take_app, go_newDc, chkDc_s, modDc_s, go_keyS, go_keyI, go_starT, go_starL, List.set_cons_zero, List.set_cons_succ, List.map_cons, List.map_nil, List.cons_append, List.nil_append, List.replicate_succ, List.replicate_zero, List.length_cons, List.length_nil, Tgs.len, wipeR, List.getD_cons_zero, List.getD_cons_succ, this]
  simp only [den_cons, den_nil, denS, denE, denA, denO, denL, denI, denT, denTs, denC, go_bind, go_pure, go_bad, bindR_ok, bindR_bad, bindR_bindR, bindR_ite, go_ite, go_ofS, go_rdD, go_fzD, go_asB, go_asI, go_slot, slot_s, go_slotF, slotF_s, go_noX, noR_ok, noR_ite, go_opD, go_cmpB, go_cmp, go_isi, go_neg, go_rdL_nil, go_rdL_cons, go_fzL_nil, go_fzL_cons, go_bi1, go_bi2, go_slc, go_tup, go_disp, go_fz, go_seqL, go_seqT, go_enumL, go_enumT, go_zipTT, go_zipLL, go_zipTL, go_zipLT, Nat.sub_self, go_sclS, go_scsS, go_listT, go_listL, go_new, gc_d, gc_ite, take_len, take_app, go_newDc, chkDc_s, modDc_s, go_keyS, go_keyI, go_starT, go_starL, List.set_cons_zero, List.set_cons_succ, List.map_cons, List.map_nil, List.cons_append, List.nil_append, List.replicate_succ, List.replicate_zero, List.length_cons, List.length_nil, Tgs.len, wipeR, List.getD_cons_zero, List.getD_cons_succ]
theorem s_lowest (a b : Int) (h1 : 1 ≤ b) (h2 : b ≤ 1000000) (n : Nat) (st : Sto) : go (run tab (n + 2) F_lowest [.d (.int a), .d (.int b)]) st = .ok (.d (.tuple [.int (a.fdiv (Nat.gcd a.natAbs b.natAbs : Nat)), .int (b.fdiv (Nat.gcd a.natAbs b.natAbs : Nat))])) st := by
  rw [go_run _ T_lowest (n + 1) _ _ ⟨rfl, by decide⟩, go_body]
  unfold D_lowest B_lowest
  have g1 : 0 < Nat.gcd a.natAbs b.natAbs := Nat.gcd_pos_of_pos_right _ (by omega)
  have g2 : Nat.gcd a.natAbs b.natAbs ≤ b.natAbs := Nat.gcd_le_right _ (by omega)
  have q : ∀ x : Int, binD .fdiv (.int x) (.int (Nat.gcd a.natAbs b.natAbs : Nat)) = some (.int (x.fdiv (Nat.gcd a.natAbs b.natAbs : Nat))) := fun x => by
    simp only [binD]
    rw [if_pos (by omega)]
  simp only [den_cons, den_nil, denS, denE, denA, denO, denL, denI, denT, denTs, denC, go_bind, go_pure, go_bad, bindR_ok, bindR_bad, bindR_bindR, bindR_ite, go_ite, go_ofS, go_rdD, go_fzD, go_asB, go_asI, go_slot, slot_s, go_slotF, slotF_s, go_noX, noR_ok, noR_ite, go_opD, go_cmpB, go_cmp, go_isi, go_neg, go_rdL_nil, go_rdL_cons, go_fzL_nil, go_fzL_cons, go_bi1, go_bi2, go_slc, go_tup, go_disp, go_fz, go_seqL, go_seqT, go_enumL, go_enumT, go_zipTT, go_zipLL, go_zipTL, go_zipLT, Nat.sub_self, go_sclS, go_scsS, go_listT, go_listL, go_new, gc_d, gc_ite, take_len, take_app, go_newDc, chkDc_s, modDc_s, go_keyS, go_keyI, go_starT, go_starL, List.set_cons_zero, List.set_cons_succ, List.map_cons, List.map_nil, List.cons_append, List.nil_append, List.replicate_succ, List.replicate_zero, List.length_cons, List.length_nil, Tgs.len, wipeR, List.getD_cons_zero, List.getD_cons_succ, s_greatest_divisor a b (by omega), q]
  rfl
def ruD (t : Tr) (sc : Int) : PyData := .tuple [t.d, .int sc]
def Scl (sc : Int) : Prop := 1 ≤ sc ∧ sc ≤ 1000000
theorem s_rule_form {ns : List Str} (hn : Ns ns) {t : Tr} (h : RTr ns t) {sc : Int} (hs : Scl sc) (n : Nat) (st : Sto) : go (run tab (n + 15) F_is_rule_form [.d (ruD t sc)]) st = .ok (.d (.bool true)) st := by
  rw [go_run _ T_is_rule_form (n + 14) _ _ ⟨rfl, by decide⟩, go_body]
  unfold D_is_rule_form B_is_rule_form ruD
  simp only [den_cons, den_nil, denS, denE, denA, denO, denL, denI, denT, denTs, denC, go_bind, go_pure, go_bad, bindR_ok, bindR_bad, bindR_bindR, bindR_ite, go_ite, go_ofS, go_rdD, go_fzD, go_asB, go_asI, go_slot, slot_s, go_slotF, slotF_s, go_noX, noR_ok, noR_ite, go_opD, go_cmpB, go_cmp, go_isi, go_neg, go_rdL_nil, go_rdL_cons, go_fzL_nil, go_fzL_cons, go_bi1, go_bi2, go_slc, go_tup, go_disp, go_fz, go_seqL, go_seqT, go_enumL, go_enumT, go_zipTT, go_zipLL, go_zipTL, go_zipLT, Nat.sub_self, go_sclS, go_scsS, go_listT, go_listL, go_new, gc_d, gc_ite, take_len, take_app, go_newDc, chkDc_s, modDc_s, go_keyS, go_keyI, go_starT, go_starL, List.set_cons_zero, List.set_cons_succ, List.map_cons, List.map_nil, List.cons_append, List.nil_append, List.replicate_succ, List.replicate_zero, List.length_cons, List.length_nil, Tgs.len, wipeR, List.getD_cons_zero, List.getD_cons_succ, s_tuple_of, idx_0, idx_1, s_is_tree hn t h, s_number, decide_eq_true hs.1, decide_eq_true hs.2]
  rfl
theorem s_score (i : Int) (h : 0 ≤ i ∧ i ≤ 100) (n : Nat) (st : Sto) : go (run tab (n + 3) F_is_score [.d (.int i)]) st = .ok (.d (.bool true)) st := by
  rw [go_run _ T_is_score (n + 2) _ _ ⟨rfl, by decide⟩, go_body]
  unfold D_is_score B_is_score
  simp only [den_cons, den_nil, denS, denE, denA, denO, denL, denI, denT, denTs, denC, go_bind, go_pure, go_bad, bindR_ok, bindR_bad, bindR_bindR, bindR_ite, go_ite, go_ofS, go_rdD, go_fzD, go_asB, go_asI, go_slot, slot_s, go_slotF, slotF_s, go_noX, noR_ok, noR_ite, go_opD, go_cmpB, go_cmp, go_isi, go_neg, go_rdL_nil, go_rdL_cons, go_fzL_nil, go_fzL_cons, go_bi1, go_bi2, go_slc, go_tup, go_disp, go_fz, go_seqL, go_seqT, go_enumL, go_enumT, go_zipTT, go_zipLL, go_zipTL, go_zipLT, Nat.sub_self, go_sclS, go_scsS, go_listT, go_listL, go_new, gc_d, gc_ite, take_len, take_app, go_newDc, chkDc_s, modDc_s, go_keyS, go_keyI, go_starT, go_starL, List.set_cons_zero, List.set_cons_succ, List.map_cons, List.map_nil, List.cons_append, List.nil_append, List.replicate_succ, List.replicate_zero, List.length_cons, List.length_nil, Tgs.len, wipeR, List.getD_cons_zero, List.getD_cons_succ, s_number, decide_eq_true h.1, decide_eq_true h.2]
  rfl
def Mks (ps : List (Str × Int)) : Prop := (∀ p ∈ ps, Nm p.1 ∧ 0 ≤ p.2 ∧ p.2 ≤ 100) ∧ ps.Pairwise (fun a b => strLt a.1 b.1 = true) ∧ ps.length ≤ 9
theorem shp_pr {p : Str × Int} (h : Nm p.1) : Shp 1 (prD p) := Shp.tuple fun d hd => by
  rcases List.mem_cons.mp hd with z | z
  · exact z ▸ Shp.str 0 h.strOk
  · rw [List.mem_singleton.mp z]; exact Shp.int 0 _
theorem shp_prs {ps : List (Str × Int)} (h : ∀ p ∈ ps, Nm p.1) : Shp 2 (.tuple (ps.map prD)) := Shp.tuple fun d hd => by
  obtain ⟨p, hp, e⟩ := List.mem_map.mp hd
  exact e ▸ shp_pr (h p hp)
theorem idx_m1 (xs : List PyData) (y : PyData) : idxD (.tuple (xs ++ [y])) (.int (-1)) = some y := by
  have e : ixD (xs ++ [y]).length (-1) = some xs.length := by
    unfold ixD ixN
    rw [List.length_append, List.length_singleton, if_neg (by omega), if_pos (by omega)]
    congr 1
    omega
  simp only [idxD, e, Option.bind_some]
  simp
theorem s_behind {ps : List (Str × Int)} {p : Str × Int} (hn : ∀ q ∈ ps, Nm q.1) (h : ps = [] ∨ ∃ qs q, ps = qs ++ [q] ∧ strLt q.1 p.1 = true) (n : Nat) (st : Sto) : go (run tab (n + 1) F_is_behind [.d (prD p), .d (.tuple (ps.map prD))]) st = .ok (.d (.bool true)) st := by
  rw [go_run _ T_is_behind n _ _ ⟨rfl, by decide⟩, go_body]
  unfold D_is_behind B_is_behind
  simp only [den_cons, den_nil, denS, denE, denA, denO, denL, denI, denT, denTs, denC, go_bind, go_pure, go_bad, bindR_ok, bindR_bad, bindR_bindR, bindR_ite, go_ite, go_ofS, go_rdD, go_fzD, go_asB, go_asI, go_slot, slot_s, go_slotF, slotF_s, go_noX, noR_ok, noR_ite, go_opD, go_cmpB, go_cmp, go_isi, go_neg, go_rdL_nil, go_rdL_cons, go_fzL_nil, go_fzL_cons, go_bi1, go_bi2, go_slc, go_tup, go_disp, go_fz, go_seqL, go_seqT, go_enumL, go_enumT, go_zipTT, go_zipLL, go_zipTL, go_zipLT, Nat.sub_self, go_sclS, go_scsS, go_listT, go_listL, go_new, gc_d, gc_ite, take_len, take_app, go_newDc, chkDc_s, modDc_s, go_keyS, go_keyI, go_starT, go_starL, List.set_cons_zero, List.set_cons_succ, List.map_cons, List.map_nil, List.cons_append, List.nil_append, List.replicate_succ, List.replicate_zero, List.length_cons, List.length_nil, Tgs.len, wipeR, List.getD_cons_zero, List.getD_cons_succ, Nat.zero_le, if_true, cmp_eqE (shp_prs hn) (by decide)]
  rcases h with z | ⟨qs, q, z, lt⟩
  · rw [decide_eq_true (by rw [z]; rfl)]
    simp only [den_cons, den_nil, denS, denE, denA, denO, denL, denI, denT, denTs, denC, go_bind, go_pure, go_bad, bindR_ok, bindR_bad, bindR_bindR, bindR_ite, go_ite, go_ofS, go_rdD, go_fzD, go_asB, go_asI, go_slot, slot_s, go_slotF, slotF_s, go_noX, noR_ok, noR_ite, go_opD, go_cmpB, go_cmp, go_isi, go_neg, go_rdL_nil, go_rdL_cons, go_fzL_nil, go_fzL_cons, go_bi1, go_bi2, go_slc, go_tup, go_disp, go_fz, go_seqL, go_seqT, go_enumL, go_enumT, go_zipTT, go_zipLL, go_zipTL, go_zipLT, Nat.sub_self, go_sclS, go_scsS, go_listT, go_listL, go_new, gc_d, gc_ite, take_len, take_app, go_newDc, chkDc_s, modDc_s, go_keyS, go_keyI, go_starT, go_starL, List.set_cons_zero, List.set_cons_succ, List.map_cons, List.map_nil, List.cons_append, List.nil_append, List.replicate_succ, List.replicate_zero, List.length_cons, List.length_nil, Tgs.len, wipeR, List.getD_cons_zero, List.getD_cons_succ, if_true]
  · rw [decide_eq_false (by rw [z]; simp), z, List.map_append, List.map_cons, List.map_nil]
    simp only [den_cons, den_nil, denS, denE, denA, denO, denL, denI, denT, denTs, denC, go_bind, go_pure, go_bad, bindR_ok, bindR_bad, bindR_bindR, bindR_ite, go_ite, go_ofS, go_rdD, go_fzD, go_asB, go_asI, go_slot, slot_s, go_slotF, slotF_s, go_noX, noR_ok, noR_ite, go_opD, go_cmpB, go_cmp, go_isi, go_neg, go_rdL_nil, go_rdL_cons, go_fzL_nil, go_fzL_cons, go_bi1, go_bi2, go_slc, go_tup, go_disp, go_fz, go_seqL, go_seqT, go_enumL, go_enumT, go_zipTT, go_zipLL, go_zipTL, go_zipLT, Nat.sub_self, go_sclS, go_scsS, go_listT, go_listL, go_new, gc_d, gc_ite, take_len, take_app, go_newDc, chkDc_s, modDc_s, go_keyS, go_keyI, go_starT, go_starL, List.set_cons_zero, List.set_cons_succ, List.map_cons, List.map_nil, List.cons_append, List.nil_append, List.replicate_succ, List.replicate_zero, List.length_cons, List.length_nil, Tgs.len, wipeR, List.getD_cons_zero, List.getD_cons_succ, idx_m1, Bool.false_eq_true, if_false]
    unfold prD
    simp only [den_cons, den_nil, denS, denE, denA, denO, denL, denI, denT, denTs, denC, go_bind, go_pure, go_bad, bindR_ok, bindR_bad, bindR_bindR, bindR_ite, go_ite, go_ofS, go_rdD, go_fzD, go_asB, go_asI, go_slot, slot_s, go_slotF, slotF_s, go_noX, noR_ok, noR_ite, go_opD, go_cmpB, go_cmp, go_isi, go_neg, go_rdL_nil, go_rdL_cons, go_fzL_nil, go_fzL_cons, go_bi1, go_bi2, go_slc, go_tup, go_disp, go_fz, go_seqL, go_seqT, go_enumL, go_enumT, go_zipTT, go_zipLL, go_zipTL, go_zipLT, Nat.sub_self, go_sclS, go_scsS, go_listT, go_listL, go_new, gc_d, gc_ite, take_len, take_app, go_newDc, chkDc_s, modDc_s, go_keyS, go_keyI, go_starT, go_starL, List.set_cons_zero, List.set_cons_succ, List.map_cons, List.map_nil, List.cons_append, List.nil_append, List.replicate_succ, List.replicate_zero, List.length_cons, List.length_nil, Tgs.len, wipeR, List.getD_cons_zero, List.getD_cons_succ, idx_0, cmpD, lt]
theorem s_mark {ps : List (Str × Int)} {p : Str × Int} (hp : Nm p.1 ∧ 0 ≤ p.2 ∧ p.2 ≤ 100) (hn : ∀ q ∈ ps, Nm q.1) (h : ps = [] ∨ ∃ qs q, ps = qs ++ [q] ∧ strLt q.1 p.1 = true) (n : Nat) (st : Sto) : go (run tab (n + 4) F_is_mark [.d (prD p), .d (.tuple (ps.map prD))]) st = .ok (.d (.bool true)) st := by
  rw [go_run _ T_is_mark (n + 3) _ _ ⟨rfl, by decide⟩, go_body]
  unfold D_is_mark B_is_mark
  have e : prD p = .tuple [.str p.1, .int p.2] := rfl
  have t2 : ∀ st, go (run tab (n + 3) F_is_tuple_of [.d (prD p), .d (.int 2)]) st = .ok (.d (.bool true)) st := fun st => s_tuple_of _ _ _ _
  have i0 : idxD (prD p) (.int 0) = some (.str p.1) := idx_0 _ _
  have i1 : idxD (prD p) (.int 1) = some (.int p.2) := idx_1 _ _ _
  simp only [den_cons, den_nil, denS, denE, denA, denO, denL, denI, denT, denTs, denC, go_bind, go_pure, go_bad, bindR_ok, bindR_bad, bindR_bindR, bindR_ite, go_ite, go_ofS, go_rdD, go_fzD, go_asB, go_asI, go_slot, slot_s, go_slotF, slotF_s, go_noX, noR_ok, noR_ite, go_opD, go_cmpB, go_cmp, go_isi, go_neg, go_rdL_nil, go_rdL_cons, go_fzL_nil, go_fzL_cons, go_bi1, go_bi2, go_slc, go_tup, go_disp, go_fz, go_seqL, go_seqT, go_enumL, go_enumT, go_zipTT, go_zipLL, go_zipTL, go_zipLT, Nat.sub_self, go_sclS, go_scsS, go_listT, go_listL, go_new, gc_d, gc_ite, take_len, take_app, go_newDc, chkDc_s, modDc_s, go_keyS, go_keyI, go_starT, go_starL, List.set_cons_zero, List.set_cons_succ, List.map_cons, List.map_nil, List.cons_append, List.nil_append, List.replicate_succ, List.replicate_zero, List.length_cons, List.length_nil, Tgs.len, wipeR, List.getD_cons_zero, List.getD_cons_succ, t2, i0, i1, s_name _ hp.1, s_score _ hp.2, s_behind hn h, if_true]
theorem enum_map (ps : List (Str × Int)) : enumD (ps.map prD) = ps.zipIdx.map fun q => .tuple [.int q.2, prD q.1] := by
  unfold enumD
  rw [List.zipIdx_map, List.map_map]
  rfl
theorem before {ps : List (Str × Int)} (h : ps.Pairwise fun a b => strLt a.1 b.1 = true) {i : Nat} {p : Str × Int} (e : ps[i]? = some p) : ps.take i = [] ∨ ∃ qs q, ps.take i = qs ++ [q] ∧ strLt q.1 p.1 = true := by
  cases i with
  | zero => exact .inl rfl
  | succ i =>
    obtain ⟨hi, e2⟩ := List.getElem?_eq_some_iff.mp e
    refine .inr ⟨ps.take i, ps[i], ?_, ?_⟩
    · rw [List.take_succ, List.getElem?_eq_getElem (by omega)]
      rfl
    · rw [← e2]
      exact List.pairwise_iff_getElem.mp h i (i + 1) (by omega) hi (by omega)
theorem slc_hiT (k : Nat) (xs : List PyData) : slcD none (some (k : Int)) (.tuple xs) = some (.tuple (xs.take k)) := by
  show some (PyData.tuple (cutD xs none (some (k : Int)))) = _
  rw [cut_hi]
theorem s_wrong_marks {ps : List (Str × Int)} (h : Mks ps) (n : Nat) (st : Sto) : go (run tab (n + 6) F_wrong_marks [.d (.tuple (ps.map prD))]) st = .ok (.d (.list [])) st := by
  rw [go_run _ T_wrong_marks (n + 5) _ _ ⟨rfl, by decide⟩, go_body]
  unfold D_wrong_marks B_wrong_marks
  have q : go (run tab (n + 5) F_wrong_at [.d (.tuple (ps.map prD)), .d (.int 9), .f F_is_mark]) st = .ok (.d (.list [])) st := by
    rw [go_run _ T_wrong_at (n + 4) _ _ ⟨rfl, by decide⟩, go_body]
    unfold D_wrong_at B_wrong_at
    simp only [den_cons, den_nil, denS, denE, denA, denO, denL, denI, denT, denTs, denC, go_bind, go_pure, go_bad, bindR_ok, bindR_bad, bindR_bindR, bindR_ite, go_ite, go_ofS, go_rdD, go_fzD, go_asB, go_asI, go_slot, slot_s, go_slotF, slotF_s, go_noX, noR_ok, noR_ite, go_opD, go_cmpB, go_cmp, go_isi, go_neg, go_rdL_nil, go_rdL_cons, go_fzL_nil, go_fzL_cons, go_bi1, go_bi2, go_slc, go_tup, go_disp, go_fz, go_seqL, go_seqT, go_enumL, go_enumT, go_zipTT, go_zipLL, go_zipTL, go_zipLT, Nat.sub_self, go_sclS, go_scsS, go_listT, go_listL, go_new, gc_d, gc_ite, take_len, take_app, go_newDc, chkDc_s, modDc_s, go_keyS, go_keyI, go_starT, go_starL, List.set_cons_zero, List.set_cons_succ, List.map_cons, List.map_nil, List.cons_append, List.nil_append, List.replicate_succ, List.replicate_zero, List.length_cons, List.length_nil, Tgs.len, wipeR, List.getD_cons_zero, List.getD_cons_succ, isiD, Bool.not_true, Bool.false_eq_true, if_false, enum_map]
    refine rw_to_eq (rw_gc (rw_bind (rw_forT (fun q : (Str × Int) × Nat => .tuple [.int q.2, prD q.1]) (fun _ ρ s => ∃ a b, ρ = [some (.d (.tuple (ps.map prD))), some (.d (.int 9)), some (.f F_is_mark), a, b] ∧ s = st) _ _ _ ⟨_, _, rfl, rfl⟩ ?hs ?hd)))
    case hs =>
      rintro q r ρ s hq ⟨a, b, rfl, rfl⟩
      have e := List.mem_zipIdx_iff_getElem?.mp hq
      obtain ⟨hi, _⟩ := List.getElem?_eq_some_iff.mp e
      have h9 := h.2.2
      have c : ¬ ((q.2 : Int) = 9) := by omega
      have mk := fun st => s_mark (ps := ps.take q.2) (h.1 q.1 (List.mem_of_getElem? e)) (fun z hz => (h.1 z (List.mem_of_mem_take hz)).1) (before h.2.1 e) n st
      rw [List.map_take] at mk
      simp only [den_cons, den_nil, denS, denE, denA, denO, denL, denI, denT, denTs, denC, go_bind, go_pure, go_bad, bindR_ok, bindR_bad, bindR_bindR, bindR_ite, go_ite, go_ofS, go_rdD, go_fzD, go_asB, go_asI, go_slot, slot_s, go_slotF, slotF_s, go_noX, noR_ok, noR_ite, go_opD, go_cmpB, go_cmp, go_isi, go_neg, go_rdL_nil, go_rdL_cons, go_fzL_nil, go_fzL_cons, go_bi1, go_bi2, go_slc, go_tup, go_disp, go_fz, go_seqL, go_seqT, go_enumL, go_enumT, go_zipTT, go_zipLL, go_zipTL, go_zipLT, Nat.sub_self, go_sclS, go_scsS, go_listT, go_listL, go_new, gc_d, gc_ite, take_len, take_app, go_newDc, chkDc_s, modDc_s, go_keyS, go_keyI, go_starT, go_starL, List.set_cons_zero, List.set_cons_succ, List.map_cons, List.map_nil, List.cons_append, List.nil_append, List.replicate_succ, List.replicate_zero, List.length_cons, List.length_nil, Tgs.len, wipeR, List.getD_cons_zero, List.getD_cons_succ, cmp_eqI, decide_eq_false c, slc_hiT, mk, if_true, Bool.not_true, Bool.false_eq_true, if_false]
      exact ⟨_, _, rfl, rfl⟩
    case hd =>
      rintro ρ s ⟨a, b, rfl, rfl⟩
      simp only [den_cons, den_nil, denS, denE, denA, denO, denL, denI, denT, denTs, denC, go_bind, go_pure, go_bad, bindR_ok, bindR_bad, bindR_bindR, bindR_ite, go_ite, go_ofS, go_rdD, go_fzD, go_asB, go_asI, go_slot, slot_s, go_slotF, slotF_s, go_noX, noR_ok, noR_ite, go_opD, go_cmpB, go_cmp, go_isi, go_neg, go_rdL_nil, go_rdL_cons, go_fzL_nil, go_fzL_cons, go_bi1, go_bi2, go_slc, go_tup, go_disp, go_fz, go_seqL, go_seqT, go_enumL, go_enumT, go_zipTT, go_zipLL, go_zipTL, go_zipLT, Nat.sub_self, go_sclS, go_scsS, go_listT, go_listL, go_new, gc_d, gc_ite, take_len, take_app, go_newDc, chkDc_s, modDc_s, go_keyS, go_keyI, go_starT, go_starL, List.set_cons_zero, List.set_cons_succ, List.map_cons, List.map_nil, List.cons_append, List.nil_append, List.replicate_succ, List.replicate_zero, List.length_cons, List.length_nil, Tgs.len, wipeR, List.getD_cons_zero, List.getD_cons_succ, Nat.zero_le, if_true]
      exact ⟨rfl, take_len _⟩
  simp only [den_cons, den_nil, denS, denE, denA, denO, denL, denI, denT, denTs, denC, go_bind, go_pure, go_bad, bindR_ok, bindR_bad, bindR_bindR, bindR_ite, go_ite, go_ofS, go_rdD, go_fzD, go_asB, go_asI, go_slot, slot_s, go_slotF, slotF_s, go_noX, noR_ok, noR_ite, go_opD, go_cmpB, go_cmp, go_isi, go_neg, go_rdL_nil, go_rdL_cons, go_fzL_nil, go_fzL_cons, go_bi1, go_bi2, go_slc, go_tup, go_disp, go_fz, go_seqL, go_seqT, go_enumL, go_enumT, go_zipTT, go_zipLL, go_zipTL, go_zipLT, Nat.sub_self, go_sclS, go_scsS, go_listT, go_listL, go_new, gc_d, gc_ite, take_len, take_app, go_newDc, chkDc_s, modDc_s, go_keyS, go_keyI, go_starT, go_starL, List.set_cons_zero, List.set_cons_succ, List.map_cons, List.map_nil, List.cons_append, List.nil_append, List.replicate_succ, List.replicate_zero, List.length_cons, List.length_nil, Tgs.len, wipeR, List.getD_cons_zero, List.getD_cons_succ, q]
theorem s_check_marks {ps : List (Str × Int)} (h : Mks ps) (n : Nat) (st : Sto) : go (run tab (n + 7) F_check_marks [.d (.tuple (ps.map prD))]) st = .ok (.d .none) st := by
  rw [go_run _ T_check_marks (n + 6) _ _ ⟨rfl, by decide⟩, go_body]
  unfold D_check_marks B_check_marks
  simp only [den_cons, den_nil, denS, denE, denA, denO, denL, denI, denT, denTs, denC, go_bind, go_pure, go_bad, bindR_ok, bindR_bad, bindR_bindR, bindR_ite, go_ite, go_ofS, go_rdD, go_fzD, go_asB, go_asI, go_slot, slot_s, go_slotF, slotF_s, go_noX, noR_ok, noR_ite, go_opD, go_cmpB, go_cmp, go_isi, go_neg, go_rdL_nil, go_rdL_cons, go_fzL_nil, go_fzL_cons, go_bi1, go_bi2, go_slc, go_tup, go_disp, go_fz, go_seqL, go_seqT, go_enumL, go_enumT, go_zipTT, go_zipLL, go_zipTL, go_zipLT, Nat.sub_self, go_sclS, go_scsS, go_listT, go_listL, go_new, gc_d, gc_ite, take_len, take_app, go_newDc, chkDc_s, modDc_s, go_keyS, go_keyI, go_starT, go_starL, List.set_cons_zero, List.set_cons_succ, List.map_cons, List.map_nil, List.cons_append, List.nil_append, List.replicate_succ, List.replicate_zero, List.length_cons, List.length_nil, Tgs.len, wipeR, List.getD_cons_zero, List.getD_cons_succ, s_wrong_marks h, go_for_nil]
theorem s_check_scores_of {ps : List (Str × Int)} (h : Mks ps) (ws : List Str) (hw : ∀ x ∈ ws, x ∈ ps.map (·.1)) (n : Nat) (st : Sto) : go (run tab (n + 8) F_check_scores_of [.d (.tuple (ws.map .str)), .d (.tuple (ps.map prD))]) st = .ok (.d .none) st := by
  rw [go_run _ T_check_scores_of (n + 7) _ _ ⟨rfl, by decide⟩, go_body]
  unfold D_check_scores_of B_check_scores_of
  simp only [den_cons, den_nil, denS, denE, denA, denO, denL, denI, denT, denTs, denC, go_bind, go_pure, go_bad, bindR_ok, bindR_bad, bindR_bindR, bindR_ite, go_ite, go_ofS, go_rdD, go_fzD, go_asB, go_asI, go_slot, slot_s, go_slotF, slotF_s, go_noX, noR_ok, noR_ite, go_opD, go_cmpB, go_cmp, go_isi, go_neg, go_rdL_nil, go_rdL_cons, go_fzL_nil, go_fzL_cons, go_bi1, go_bi2, go_slc, go_tup, go_disp, go_fz, go_seqL, go_seqT, go_enumL, go_enumT, go_zipTT, go_zipLL, go_zipTL, go_zipLT, Nat.sub_self, go_sclS, go_scsS, go_listT, go_listL, go_new, gc_d, gc_ite, take_len, take_app, go_newDc, chkDc_s, modDc_s, go_keyS, go_keyI, go_starT, go_starL, List.set_cons_zero, List.set_cons_succ, List.map_cons, List.map_nil, List.cons_append, List.nil_append, List.replicate_succ, List.replicate_zero, List.length_cons, List.length_nil, Tgs.len, wipeR, List.getD_cons_zero, List.getD_cons_succ, s_check_marks h]
  rw [go_comp_of prD (fun p => .str p.1) ps ?h ?l]
  case h =>
    intro p hp
    unfold prD
    simp only [den_cons, den_nil, denS, denE, denA, denO, denL, denI, denT, denTs, denC, go_bind, go_pure, go_bad, bindR_ok, bindR_bad, bindR_bindR, bindR_ite, go_ite, go_ofS, go_rdD, go_fzD, go_asB, go_asI, go_slot, slot_s, go_slotF, slotF_s, go_noX, noR_ok, noR_ite, go_opD, go_cmpB, go_cmp, go_isi, go_neg, go_rdL_nil, go_rdL_cons, go_fzL_nil, go_fzL_cons, go_bi1, go_bi2, go_slc, go_tup, go_disp, go_fz, go_seqL, go_seqT, go_enumL, go_enumT, go_zipTT, go_zipLL, go_zipTL, go_zipLT, Nat.sub_self, go_sclS, go_scsS, go_listT, go_listL, go_new, gc_d, gc_ite, take_len, take_app, go_newDc, chkDc_s, modDc_s, go_keyS, go_keyI, go_starT, go_starL, List.set_cons_zero, List.set_cons_succ, List.map_cons, List.map_nil, List.cons_append, List.nil_append, List.replicate_succ, List.replicate_zero, List.length_cons, List.length_nil, Tgs.len, wipeR, List.getD_cons_zero, List.getD_cons_succ, if_true]
  case l => have := h.2.2; unfold SZ; omega
  have e : (ps.map fun p => PyData.str p.1) = (ps.map (·.1)).map .str := by rw [List.map_map]; rfl
  rw [e]
  simp only [den_cons, den_nil, denS, denE, denA, denO, denL, denI, denT, denTs, denC, go_bind, go_pure, go_bad, bindR_ok, bindR_bad, bindR_bindR, bindR_ite, go_ite, go_ofS, go_rdD, go_fzD, go_asB, go_asI, go_slot, slot_s, go_slotF, slotF_s, go_noX, noR_ok, noR_ite, go_opD, go_cmpB, go_cmp, go_isi, go_neg, go_rdL_nil, go_rdL_cons, go_fzL_nil, go_fzL_cons, go_bi1, go_bi2, go_slc, go_tup, go_disp, go_fz, go_seqL, go_seqT, go_enumL, go_enumT, go_zipTT, go_zipLL, go_zipTL, go_zipLT, Nat.sub_self, go_sclS, go_scsS, go_listT, go_listL, go_new, gc_d, gc_ite, take_len, take_app, go_newDc, chkDc_s, modDc_s, go_keyS, go_keyI, go_starT, go_starL, List.set_cons_zero, List.set_cons_succ, List.map_cons, List.map_nil, List.cons_append, List.nil_append, List.replicate_succ, List.replicate_zero, List.length_cons, List.length_nil, Tgs.len, wipeR, List.getD_cons_zero, List.getD_cons_succ]
  refine rw_to_eq (rw_gc (rw_bind (rw_forT (fun x : Str => .str x) (fun _ ρ s => ∃ a, ρ = [some (.d (.tuple (ws.map .str))), some (.d (.tuple (ps.map prD))), some (.d (.list ((ps.map (·.1)).map .str))), a, none] ∧ s = st) _ _ _ ⟨_, rfl, rfl⟩ ?hs ?hd)))
  case hs =>
    rintro x r ρ s hx ⟨a, rfl, rfl⟩
    have c : cmpD .notin (.str x) (.list ((ps.map (·.1)).map .str)) = some false := by
      simp only [cmpD, inL_strs, Option.map_some, decide_eq_true (hw x hx), Bool.not_true]
    simp only [den_cons, den_nil, denS, denE, denA, denO, denL, denI, denT, denTs, denC, go_bind, go_pure, go_bad, bindR_ok, bindR_bad, bindR_bindR, bindR_ite, go_ite, go_ofS, go_rdD, go_fzD, go_asB, go_asI, go_slot, slot_s, go_slotF, slotF_s, go_noX, noR_ok, noR_ite, go_opD, go_cmpB, go_cmp, go_isi, go_neg, go_rdL_nil, go_rdL_cons, go_fzL_nil, go_fzL_cons, go_bi1, go_bi2, go_slc, go_tup, go_disp, go_fz, go_seqL, go_seqT, go_enumL, go_enumT, go_zipTT, go_zipLL, go_zipTL, go_zipLT, Nat.sub_self, go_sclS, go_scsS, go_listT, go_listL, go_new, gc_d, gc_ite, take_len, take_app, go_newDc, chkDc_s, modDc_s, go_keyS, go_keyI, go_starT, go_starL, List.set_cons_zero, List.set_cons_succ, List.map_cons, List.map_nil, List.cons_append, List.nil_append, List.replicate_succ, List.replicate_zero, List.length_cons, List.length_nil, Tgs.len, wipeR, List.getD_cons_zero, List.getD_cons_succ, c, Bool.false_eq_true, if_false]
    exact ⟨_, rfl, rfl⟩
  case hd =>
    rintro ρ s ⟨a, rfl, rfl⟩
    exact ⟨rfl, take_len _⟩
def Asked (ns : List Str) (t : Tr) (sc : Int) (ps : List (Str × Int)) : Prop := Ns ns ∧ RTr ns t ∧ Scl sc ∧ Mks ps ∧ ∀ x ∈ t.works, x ∈ ps.map (·.1)
def scr (ps : List (Str × Int)) (x : Str) : Int := (List.lookup x ps).getD 0
theorem scr_get {ps : List (Str × Int)} {x : Str} (h : x ∈ ps.map (·.1)) : getKey (.str x) (ps.map kvD) = some (.int (scr ps x)) := by
  rw [get_prs]
  unfold scr
  cases e : List.lookup x ps with
  | none =>
    rw [List.lookup_eq_none_iff] at e
    obtain ⟨p, hp, q⟩ := List.mem_map.mp h
    have := e p hp
    simp [q] at this
  | some v => rfl
theorem mks_nodup {ps : List (Str × Int)} (h : Mks ps) : (ps.map (·.1)).Nodup := lt_nodup (List.pairwise_map.mpr h.2.1)
def frD (v sc : Int) : PyData := .tuple [.int (v.fdiv (Nat.gcd v.natAbs sc.natAbs : Nat)), .int (sc.fdiv (Nat.gcd v.natAbs sc.natAbs : Nat))]
def abcS : Str := "abcdefghijklmnopqrstuvwxyz"
theorem abcS_l : abcS.cps.toList = abc := by decide +kernel
theorem abc_idx {i : Nat} (h : i < 26) : ∃ c ∈ abc, idxD (.str abcS) (.int (i : Int)) = some (.str ⟨#[c]⟩) := by
  have hk : i < abc.length := h
  exact ⟨abc[i], List.getElem_mem hk, idx_str (by decide +kernel) (by rw [abcS_l]; exact List.getElem?_eq_getElem hk)⟩
def hd (x : Str) : Nat := x.cps.toList.headD 0
theorem lt_hd {x y : Str} (hx : 1 ≤ x.cps.toList.length) (hy : 1 ≤ y.cps.toList.length) (h : hd x < hd y) : strLt x y = true := by
  unfold hd at h
  unfold strLt
  cases e1 : x.cps.toList with
  | nil => rw [e1] at hx; simp at hx
  | cons a as =>
    cases e2 : y.cps.toList with
    | nil => rw [e2] at hy; simp at hy
    | cons b bs =>
      rw [e1, e2] at h
      simp only [List.headD_cons] at h
      rw [decide_eq_true_eq, List.cons_lt_cons_iff]
      exact .inl h
def Nm0 (x : Str) : Prop := 1 ≤ x.cps.toList.length ∧ x.cps.toList.length ≤ 8 ∧ ∀ c ∈ x.cps.toList, c ∈ abc
theorem wds_q : ∀ w ∈ wds, w.cps.toList.getLastD 0 ≠ 113 := by decide +kernel
theorem nm_q {x : Str} (h : Nm0 x) : Nm ((⟨(x.cps.toList.take 7).toArray⟩ : Str) ++ Str.ofString "q") ∧ hd ((⟨(x.cps.toList.take 7).toArray⟩ : Str) ++ Str.ofString "q") = hd x := by
  obtain ⟨h1, h2, h3⟩ := h
  have e : ((⟨(x.cps.toList.take 7).toArray⟩ : Str) ++ Str.ofString "q").cps.toList = x.cps.toList.take 7 ++ [113] := by
    rw [str_app]; rfl
  refine ⟨⟨?_, ?_, ?_, ?_⟩, ?_⟩
  · rw [e, List.length_append, List.length_singleton]; omega
  · rw [e, List.length_append, List.length_singleton, List.length_take]; omega
  · rw [e]
    intro c hc
    rcases List.mem_append.mp hc with z | z
    · exact h3 c (List.mem_of_mem_take z)
    · rw [List.mem_singleton.mp z]; decide
  · intro z
    refine wds_q _ z ?_
    rw [e]
    simp
  · unfold hd
    rw [e]
    cases e2 : x.cps.toList with
    | nil => rw [e2] at h1; simp at h1
    | cons a as => rfl
theorem sgn_pw : (signs (⟨(abcS.cps.toList.take 25).toArray⟩ : Str)).Pairwise fun a b => hd a < hd b := by decide +kernel
theorem sgn_nm : ∀ x ∈ signs (⟨(abcS.cps.toList.take 25).toArray⟩ : Str), x.cps.toList.length = 1 ∧ (∀ c ∈ x.cps.toList, c ∈ abc) ∧ hd x < 122 := by decide +kernel
theorem abcS_len : abcS.length = 26 := by decide +kernel
theorem add_n (i j : Nat) : binD .add (.int (i : Int)) (.int (j : Int)) = some (.int ((i + j : Nat) : Int)) := by
  simp only [binD]
  congr 2
theorem add_1n (j : Nat) : binD .add (.int 1) (.int (j : Int)) = some (.int ((1 + j : Nat) : Int)) := add_n 1 j
theorem sub_0 (i : Int) : binD .sub (.int 0) (.int i) = some (.int (-i)) := by
  simp only [binD]
  congr 2
  omega
def Nms (ns : List Str) : Prop := Ns ns ∧ ns.Pairwise (fun a b => strLt a b = true) ∧ ns ≠ []
theorem min_n (i j : Nat) : biD .min2 [.int (i : Int), .int (j : Int)] = some (.int ((min i j : Nat) : Int)) := by
  simp only [biD]
  congr 2
  split <;> omega
theorem cmp_lt (i j : Int) : cmpD .lt (.int i) (.int j) = some (decide (i < j)) := rfl
theorem cmp_gt (i j : Int) : cmpD .gt (.int i) (.int j) = some (decide (j < i)) := rfl
theorem flat_len {α : Type} (g : α → List Str) (B : Nat) : ∀ l : List α, (∀ a ∈ l, (g a).length ≤ B) → (l.flatMap g).length ≤ l.length * B
  | [], _ => by simp
  | a :: l, h => by
    have h1 := h a List.mem_cons_self
    have h2 := flat_len g B l fun b hb => h b (List.mem_cons_of_mem _ hb)
    rw [List.flatMap_cons, List.length_append, List.length_cons, Nat.succ_mul]
    omega
theorem cat_L {xs ys : List PyData} (h : xs.length + ys.length ≤ SZ) : binD .add (.list xs) (.list ys) = some (.list (xs ++ ys)) := if_pos h
theorem lookup_app {x : Str} {ps qs : List (Str × Int)} (h : x ∈ ps.map (·.1)) : List.lookup x (ps ++ qs) = List.lookup x ps := by
  induction ps with
  | nil => simp at h
  | cons p ps ih =>
    rw [List.cons_append, List.lookup_cons, List.lookup_cons]
    cases e : x == p.1 with
    | true => rfl
    | false =>
      refine ih ?_
      rcases List.mem_cons.mp h with z | z
      · rw [z] at e; simp at e
      · exact z
theorem scr_mem {ps : List (Str × Int)} {x : Str} (h : x ∈ ps.map (·.1)) : (x, scr ps x) ∈ ps := by
  unfold scr
  cases e : List.lookup x ps with
  | none =>
    rw [List.lookup_eq_none_iff] at e
    obtain ⟨p, hp, q⟩ := List.mem_map.mp h
    have := e p hp
    simp [q] at this
  | some v =>
    obtain ⟨l1, l2, e3, _⟩ := List.lookup_eq_some_iff.mp e
    rw [Option.getD_some, e3]
    simp
theorem scr_bd {ps : List (Str × Int)} (h : ∀ p ∈ ps, 0 ≤ p.2 ∧ p.2 ≤ 100) (x : Str) : (scr ps x).natAbs ≤ 100 := by
  by_cases hx : x ∈ ps.map (·.1)
  · have := h _ (scr_mem hx)
    dsimp only at this
    omega
  · have e : List.lookup x ps = none := List.lookup_eq_none_iff.mpr fun p hp => by
      simp only [bne_iff_ne]
      intro z
      exact hx (List.mem_map.mpr ⟨p, hp, z.symm⟩)
    unfold scr
    rw [e]
    decide
def Rnd (ns : List Str) (t : Tr) (sc : Int) (ps : List (Str × Int)) : Prop := Asked ns t sc ps ∧ ∀ p ∈ ps, hd p.1 < 122
theorem Rnd.small {ns : List Str} {t : Tr} {sc : Int} {ps : List (Str × Int)} (h : Rnd ns t sc ps) : (t.val (scr ps)).natAbs < 10 ^ 12 := by
  have := Tr.val_bd (ns := ns) h.1.1.2 (f := scr ps) (fun x _ => scr_bd (fun p hp => (h.1.2.2.2.1.1 p hp).2) x) t h.1.2.1.1
  exact Nat.lt_of_le_of_lt this (by decide)
theorem fdiv_small {v : Int} {g : Nat} (hg : 0 < g) (hd : (g : Int) ∣ v) (h : v.natAbs < 10 ^ 12) : (v.fdiv (g : Int)).natAbs < 10 ^ 12 := by
  obtain ⟨q, rfl⟩ := hd
  rw [Int.mul_fdiv_cancel_left _ (by omega)]
  rw [Int.natAbs_mul, Int.natAbs_natCast] at h
  exact Nat.lt_of_le_of_lt (Nat.le_mul_of_pos_left _ hg) h
theorem Rep.fr {v sc : Int} (h : v.natAbs < 10 ^ 12) (hs : Scl sc) : Rep 1 82 (frD v sc) := by
  have g1 : 0 < Nat.gcd v.natAbs sc.natAbs := Nat.gcd_pos_of_pos_right _ (by have := hs.1; omega)
  have d1 : ((Nat.gcd v.natAbs sc.natAbs : Nat) : Int) ∣ v := Int.ofNat_dvd_left.mpr (Nat.gcd_dvd_left _ _)
  have d2 : ((Nat.gcd v.natAbs sc.natAbs : Nat) : Int) ∣ sc := Int.ofNat_dvd_left.mpr (Nat.gcd_dvd_right _ _)
  have b2 : sc.natAbs < 10 ^ 12 := by have := hs.1; have := hs.2; omega
  exact Rep.tuple (m := 0) (w := 40) (xs := [.int (v.fdiv (Nat.gcd v.natAbs sc.natAbs : Nat)), .int (sc.fdiv (Nat.gcd v.natAbs sc.natAbs : Nat))]) fun x hx => by
    simp only [List.mem_cons, List.not_mem_nil, or_false] at hx
    rcases hx with rfl | rfl
    · exact Rep.int (fdiv_small g1 d1 h)
    · exact Rep.int (fdiv_small g1 d2 b2)
theorem nm_zz : Nm (Str.ofString "zz") := by
  refine ⟨by decide +kernel, by decide +kernel, by decide +kernel, by decide +kernel⟩
theorem Rnd.more {ns : List Str} {t : Tr} {sc : Int} {ps : List (Str × Int)} (h : Rnd ns t sc ps) (hl : ps.length < 9) {v : Int} (hv : 0 ≤ v ∧ v ≤ 100) : Asked ns t sc (ps ++ [(Str.ofString "zz", v)]) ∧ t.val (scr (ps ++ [(Str.ofString "zz", v)])) = t.val (scr ps) := by
  obtain ⟨⟨h1, h2, h3, ⟨h4, h5, h6⟩, h7⟩, h8⟩ := h
  refine ⟨⟨h1, h2, h3, ⟨?_, ?_, ?_⟩, ?_⟩, ?_⟩
  · intro p hp
    rcases List.mem_append.mp hp with q | q
    · exact h4 p q
    · rw [List.mem_singleton.mp q]; exact ⟨nm_zz, hv⟩
  · rw [List.pairwise_append]
    refine ⟨h5, List.pairwise_singleton _ _, fun a ha b hb => ?_⟩
    rw [List.mem_singleton.mp hb]
    refine lt_hd (h4 a ha).1.1 nm_zz.1 ?_
    have := h8 a ha
    have e : hd (Str.ofString "zz") = 122 := by decide +kernel
    rw [e]; exact this
  · rw [List.length_append, List.length_singleton]; omega
  · intro x hx
    rw [List.map_append]
    exact List.mem_append_left _ (h7 x hx)
  · refine Tr.val_ext t fun x hx => ?_
    unfold scr
    rw [lookup_app (h7 x hx)]
def Env5 (l : Nat) (x1 x2 : Option W) (ru wo : W) (ρ : Rho) : Prop := ∃ x5 x6 x7 x8 x9 x10 x11 : Option W, ρ = [some (.r l), x1, x2, some ru, some wo, x5, x6, x7, x8, x9, x10, x11]
end Gk
namespace Gk
open PySem PySem.Spec L2 Gd
theorem u_take {l : Nat} {s : Sto} (h : Wat l s) {lim : Int} (h1 : 0 < lim) (h2 : lim < 1073741824) (n : Nat) : RWp (go (run tab (n + 1) F__law_take [.r l, .d (.int lim)]) s) fun w s' => (∃ i : Nat, w = .d (.int i) ∧ (i : Int) < lim) ∧ Drw l s s' := by
  obtain ⟨w, ⟨a, b, c, rfl, ha⟩, e⟩ := h
  rw [go_run _ T__law_take n _ _ ⟨rfl, by decide⟩, go_body]
  unfold D__law_take B__law_take
  have hl : l < s.length := (List.getElem?_eq_some_iff.mp e).1
  have ck := fun (ρ : Rho) (w : List PyData) => go_chk (s := s.set l (.lst w)) ρ (get_set hl _)
  have md := fun (ρ : Rho) (w : List PyData) k => go_mod (s := s.set l (.lst w)) ρ k (get_set hl _)
  have ix := fun (w : List PyData) (i : Int) => go_idxC (s := s.set l (.lst w)) (get_set hl _) i
  have c1 : cmpD .gt (.int a) (.int 0) = some (decide (0 < a)) := rfl
  simp only [den_cons, den_nil, denS, denE, denA, denO, denL, denI, denT, denTs, denC, go_bind, go_pure, go_bad, bindR_ok, bindR_bad, bindR_bindR, bindR_ite, go_ite, go_ofS, go_rdD, go_fzD, go_asB, go_asI, go_slot, slot_s, go_slotF, slotF_s, go_noX, noR_ok, noR_ite, go_opD, go_cmpB, go_cmp, go_isi, go_neg, go_rdL_nil, go_rdL_cons, go_fzL_nil, go_fzL_cons, go_bi1, go_bi2, go_slc, go_tup, go_disp, go_fz, go_seqL, go_seqT, go_enumL, go_enumT, go_zipTT, go_zipLL, go_zipTL, go_zipLT, Nat.sub_self, go_sclS, go_scsS, go_listT, go_listL, go_new, gc_d, gc_ite, take_len, take_app, go_newDc, chkDc_s, modDc_s, go_keyS, go_keyI, go_starT, go_starL, List.set_cons_zero, List.set_cons_succ, List.map_cons, List.map_nil, List.cons_append, List.nil_append, List.replicate_succ, List.replicate_zero, List.length_cons, List.length_nil, Tgs.len, wipeR, List.getD_cons_zero, List.getD_cons_succ, go_idxC e, idxL_0, c1]
  by_cases z : 0 < a
  · simp only [decide_eq_true z, if_true, den_cons, den_nil, denS, denE, denA, denO, denL, denI, denT, denTs, denC, go_bind, go_pure, go_bad, bindR_ok, bindR_bad, bindR_bindR, bindR_ite, go_ite, go_ofS, go_rdD, go_fzD, go_asB, go_asI, go_slot, slot_s, go_slotF, slotF_s, go_noX, noR_ok, noR_ite, go_opD, go_cmpB, go_cmp, go_isi, go_neg, go_rdL_nil, go_rdL_cons, go_fzL_nil, go_fzL_cons, go_bi1, go_bi2, go_slc, go_tup, go_disp, go_fz, go_seqL, go_seqT, go_enumL, go_enumT, go_zipTT, go_zipLL, go_zipTL, go_zipLT, Nat.sub_self, go_sclS, go_scsS, go_listT, go_listL, go_new, gc_d, gc_ite, take_len, take_app, go_newDc, chkDc_s, modDc_s, go_keyS, go_keyI, go_starT, go_starL, List.set_cons_zero, List.set_cons_succ, List.map_cons, List.map_nil, List.cons_append, List.nil_append, List.replicate_succ, List.replicate_zero, List.length_cons, List.length_nil, Tgs.len, wipeR, List.getD_cons_zero, List.getD_cons_succ, go_chk _ e, dm_i a ⟨h1, h2⟩, go_mod _ _ e, setK_0, take_set]
    have := Int.emod_nonneg a (b := lim) (by omega)
    refine ⟨⟨(a % lim).toNat, by rw [Int.toNat_of_nonneg this], by rw [Int.toNat_of_nonneg this]; exact Int.emod_lt_of_pos a h1⟩, ⟨_, ?_, rfl⟩⟩
    exact ⟨a / lim, b, c, rfl, Int.ediv_nonneg ha (by omega)⟩
  · have s1 : small 40009 = true := by decide
    have s2 : small 15013 = true := by decide
    have s4 : small 3 = true := by decide
    have s3 : ∀ x : Int, small (x.fmod 5003 + 30011) = true := fun x => by
      have := Int.fmod_nonneg_of_pos x (b := 5003) (by omega)
      have := Int.fmod_lt_of_pos x (b := 5003) (by omega)
      exact sm_of (by omega) (by omega)
    simp only [decide_eq_false z, Bool.false_eq_true, if_false, den_cons, den_nil, denS, denE, denA, denO, denL, denI, denT, denTs, denC, go_bind, go_pure, go_bad, bindR_ok, bindR_bad, bindR_bindR, bindR_ite, go_ite, go_ofS, go_rdD, go_fzD, go_asB, go_asI, go_slot, slot_s, go_slotF, slotF_s, go_noX, noR_ok, noR_ite, go_opD, go_cmpB, go_cmp, go_isi, go_neg, go_rdL_nil, go_rdL_cons, go_fzL_nil, go_fzL_cons, go_bi1, go_bi2, go_slc, go_tup, go_disp, go_fz, go_seqL, go_seqT, go_enumL, go_enumT, go_zipTT, go_zipLL, go_zipTL, go_zipLT, Nat.sub_self, go_sclS, go_scsS, go_listT, go_listL, go_new, gc_d, gc_ite, take_len, take_app, go_newDc, chkDc_s, modDc_s, go_keyS, go_keyI, go_starT, go_starL, List.set_cons_zero, List.set_cons_succ, List.map_cons, List.map_nil, List.cons_append, List.nil_append, List.replicate_succ, List.replicate_zero, List.length_cons, List.length_nil, Tgs.len, wipeR, List.getD_cons_zero, List.getD_cons_succ, go_chk _ e, go_idxC e, go_mod _ _ e, ck, md, ix, idxL_0, idxL_1, idxL_2, setK_0, setK_1, setK_2, add_i, mul_r _ s1, mul_l s2, mul_l s4, mul_r _ (s3 _), mod_i _ (show (2147483629 : Int) ≠ 0 by decide), mod_i _ (show (5003 : Int) ≠ 0 by decide), int_i, fdiv_i _ (show (907 : Int) ≠ 0 ∧ (907 : Int).natAbs < 1073741824 by decide), mod_i _ (show lim ≠ 0 by omega), List.set_set, take_set]
    refine ⟨⟨_, (congrArg (fun i => W.d (.int i)) (Int.toNat_of_nonneg (Int.fmod_nonneg_of_pos _ h1)).symm), ?_⟩, ⟨_, ?_, rfl⟩⟩
    · rw [Int.toNat_of_nonneg (Int.fmod_nonneg_of_pos _ h1)]
      exact Int.fmod_lt_of_pos _ h1
    · exact ⟨a, _, _, rfl, ha⟩
theorem u_ofW {l : Nat} {s : Sto} (h : Wat l s) {some : W} {xs : List PyData} (h1 : xs ≠ []) (h2 : xs.length ≤ 1000) (hL : go (biM .len [some]) s = .ok (.d (.int xs.length)) s) (hI : ∀ s' (i : Nat) d, Drw l s s' → xs[i]? = Option.some d → go (opD idxD some (.d (.int i))) s' = .ok (.d d) s') (n : Nat) : RWp (go (run tab (n + 2) F__law_of [.r l, some]) s) fun w s' => (∃ d ∈ xs, w = .d d) ∧ Drw l s s' := by
  rw [go_run _ T__law_of (n + 1) _ _ ⟨rfl, by decide⟩, go_body]
  unfold D__law_of B__law_of
  have p : 0 < xs.length := List.length_pos_iff.mpr h1
  simp only [den_cons, den_nil, denS, denE, denA, go_bind, go_pure, bindR_ok, bindR_bindR, go_slot, slot_s, List.map_cons, List.map_nil, List.cons_append, List.nil_append, hL]
  refine rw_gc (rw_bind ((u_take h (lim := (xs.length : Int)) (by omega) (by omega) n).mono ?_))
  rintro w s' ⟨⟨i, rfl, hi⟩, dr⟩
  have hi : i < xs.length := by omega
  simp only [den_cons, den_nil, denS, denE, denA, denO, denL, denI, denT, denTs, denC, go_bind, go_pure, go_bad, bindR_ok, bindR_bad, bindR_bindR, bindR_ite, go_ite, go_ofS, go_rdD, go_fzD, go_asB, go_asI, go_slot, slot_s, go_slotF, slotF_s, go_noX, noR_ok, noR_ite, go_opD, go_cmpB, go_cmp, go_isi, go_neg, go_rdL_nil, go_rdL_cons, go_fzL_nil, go_fzL_cons, go_bi1, go_bi2, go_slc, go_tup, go_disp, go_fz, go_seqL, go_seqT, go_enumL, go_enumT, go_zipTT, go_zipLL, go_zipTL, go_zipLT, Nat.sub_self, go_sclS, go_scsS, go_listT, go_listL, go_new, gc_d, gc_ite, take_len, take_app, go_newDc, chkDc_s, modDc_s, go_keyS, go_keyI, go_starT, go_starL, List.set_cons_zero, List.set_cons_succ, List.map_cons, List.map_nil, List.cons_append, List.nil_append, List.replicate_succ, List.replicate_zero, List.length_cons, List.length_nil, Tgs.len, wipeR, List.getD_cons_zero, List.getD_cons_succ, hI s' i _ dr (List.getElem?_eq_getElem hi), dr.take]
  exact ⟨⟨_, List.getElem_mem hi, rfl⟩, by rw [dr.take]; exact dr⟩
theorem u_ofL {l : Nat} {s : Sto} (h : Wat l s) {xs : List PyData} (h1 : xs ≠ []) (h2 : xs.length ≤ 1000) (n : Nat) : RWp (go (run tab (n + 2) F__law_of [.r l, .d (.list xs)]) s) fun w s' => (∃ d ∈ xs, w = .d d) ∧ Drw l s s' :=
  u_ofW h h1 h2 (by rw [go_bi1, len_L]) (fun s' i d _ e => by rw [go_opD, idxL_at xs i e]) n
theorem u_ofS {l : Nat} {s : Sto} (h : Wat l s) (n : Nat) : RWp (go (run tab (n + 2) F__law_of [.r l, .d (.str abcS)]) s) fun w s' => (∃ c ∈ abc, w = .d (.str ⟨#[c]⟩)) ∧ Drw l s s' := by
  have la : biD .len [.str abcS] = some (.int ((abc.map fun c => PyData.str ⟨#[c]⟩).length : Nat)) := by
    rw [len_S (by decide +kernel)]
    exact congrArg (fun k : Nat => some (PyData.int (k : Int))) (by decide +kernel)
  refine (u_ofW h (xs := abc.map fun c => PyData.str ⟨#[c]⟩) (by decide) (by decide) (by rw [go_bi1, la]) (fun s' i d _ e => ?_) n).mono ?_
  · rw [List.getElem?_map] at e
    obtain ⟨c, hc, rfl⟩ := Option.map_eq_some_iff.mp e
    rw [go_opD, idx_str (z := abcS) (by decide +kernel) (by rw [abcS_l]; exact hc)]
  · rintro w s' ⟨⟨d, hd, rfl⟩, dr⟩
    obtain ⟨c, hc, rfl⟩ := List.mem_map.mp hd
    exact ⟨⟨c, hc, rfl⟩, dr⟩
theorem u_ofR {l m : Nat} {s : Sto} (h : Wat l s) (hm : m ≠ l) {xs : List PyData} (g : s[m]? = some (.lst xs)) (h1 : xs ≠ []) (h2 : xs.length ≤ 1000) (n : Nat) : RWp (go (run tab (n + 2) F__law_of [.r l, .r m]) s) fun w s' => (∃ d ∈ xs, w = .d d) ∧ Drw l s s' :=
  u_ofW h h1 h2 (by rw [go_biC _ g, len_L]) (fun s' i d dr e => by
    obtain ⟨v, _, rfl⟩ := dr
    rw [go_idxC (w := xs) (by rw [List.getElem?_set_ne hm.symm]; exact g), idxL_at xs i e]) n
end Gk
namespace Gk
open PySem PySem.Spec L2 Gd
theorem wds_noq : ∀ w ∈ wds, 113 ∉ w.cps.toList ∧ 2 ≤ w.cps.toList.length := by decide +kernel
theorem rep7 (c : Nat) : (Txt.mul ⟨#[c]⟩ 7).cps.toList = [c, c, c, c, c, c, c] := by
  unfold Txt.mul
  rw [if_neg (by decide), if_neg (show ¬ ((7 : Int) == 1 || ((⟨#[c]⟩ : Str).length == 0)) = true by show ¬ (false || ((1 : Nat) == 0)) = true; decide)]
  rfl
theorem qcut (k : Nat) : ((⟨((Str.ofString "q").cps.toList.take k).toArray⟩ : Str)).cps.toList = if k = 0 then [] else [113] := by
  cases k with
  | zero => rfl
  | succ k => 
    have : (Str.ofString "q").cps.toList = [113] := by decide +kernel
    rw [this, if_neg (by omega)]
    show List.take (k + 1) [113] = [113]
    rw [List.take_succ_cons, List.take_nil]
theorem slc_lo {z : Str} (hz : z.length ≤ SZ) (k : Nat) : slcD (some (k : Int)) none (.str z) = some (.str ⟨(z.cps.toList.drop k).toArray⟩) := by
  show (if z.length ≤ SZ then some (PyData.str ⟨(cutD z.cps.toList (some (k : Int)) none).toArray⟩) else none) = _
  rw [if_pos hz, cut_lo]
def Own (t : Nat) (x : Str) : Prop := Nm x ∧ ∃ i, i < t ∧ abc[i]? ≠ none ∧ abc.getD i 0 ∈ x.cps.toList
theorem abc_q : ∀ i, i < 9 → abc.getD i 0 ≠ 113 := by decide
theorem abc_inj : ∀ i, i < 9 → ∀ j, j < 9 → abc.getD i 0 = abc.getD j 0 → i = j := by decide
theorem abc_mem : ∀ i, i < 9 → abc.getD i 0 ∈ abc := by decide
theorem u_names {l : Nat} {s : Sto} (h : Wat l s) {many : Nat} (hm : many ≤ 9) {mw : W} (em : mw = .d (.int (many : Int))) (n : Nat) : RWp (go (run tab (n + 3) F__law_names [.r l, mw]) s) fun w s' => (∃ ns : List Str, w = .d (.list (ns.map .str)) ∧ (∀ x ∈ ns, Nm x) ∧ ns.Nodup ∧ ns.length = many) ∧ Drw l s s' := by
  subst em
  rw [go_run _ T__law_names (n + 2) _ _ ⟨rfl, by decide⟩, go_body]
  unfold D__law_names B__law_names
  have hl := h.lt
  have ab : (Str.ofString "abcdefghijklmnopqrstuvwxyz") = abcS := rfl
  simp only [den_cons, den_nil, denS, denE, denA, denO, denL, denI, denT, denTs, denC, go_bind, go_pure, go_bad, bindR_ok, bindR_bad, bindR_bindR, bindR_ite, go_ite, go_ofS, go_rdD, go_fzD, go_asB, go_asI, go_slot, slot_s, go_slotF, slotF_s, go_noX, noR_ok, noR_ite, go_opD, go_cmpB, go_cmp, go_isi, go_neg, go_rdL_nil, go_rdL_cons, go_fzL_nil, go_fzL_cons, go_bi1, go_bi2, go_slc, go_tup, go_disp, go_fz, go_seqL, go_seqT, go_enumL, go_enumT, go_zipTT, go_zipLL, go_zipTL, go_zipLT, Nat.sub_self, go_sclS, go_scsS, go_listT, go_listL, go_new, gc_d, gc_ite, take_len, take_app, go_newDc, chkDc_s, modDc_s, go_keyS, go_keyI, go_starT, go_starL, List.set_cons_zero, List.set_cons_succ, List.map_cons, List.map_nil, List.cons_append, List.nil_append, List.replicate_succ, List.replicate_zero, List.length_cons, List.length_nil, Tgs.len, wipeR, List.getD_cons_zero, List.getD_cons_succ, Nat.zero_le, if_true, ab, go_rngN (show many ≤ 1000 by omega)]
  refine rw_gc (rw_bind (rw_forT (fun i : Nat => .int (i : Int)) (fun rem ρ s' => ∃ (s2 : Sto) (xs : List Str) (t : Nat) (a4 a5 a6 a7 a8 : Option W), Drw l s s2 ∧ s' = s2 ++ [.lst (xs.map .str)] ∧ ρ = [some (.r l), some (.d (.int many)), some (.r s.length), some (.d (.str abcS)), a4, a5, a6, a7, a8] ∧ rem = (List.range many).drop t ∧ t ≤ many ∧ xs.length = t ∧ xs.Nodup ∧ ∀ x ∈ xs, Nm x ∧ ∃ i, i < t ∧ abc.getD i 0 ∈ x.cps.toList) _ _ _ ?h0 ?hs ?hd))
  case h0 => exact ⟨s, [], 0, _, _, _, _, _, h.refl, rfl, rfl, rfl, Nat.zero_le _, rfl, List.nodup_nil, fun x hx => nomatch hx⟩
  case hs =>
    rintro i r ρ s' hi ⟨s2, xs, t, a4, a5, a6, a7, a8, dr, rfl, rfl, er, ht, hx1, hx2, hx3⟩
    have lt : t < many := by
      by_cases z : t < many
      · exact z
      · rw [List.drop_of_length_le (by rw [List.length_range]; omega)] at er
        cases er
    rw [List.drop_eq_getElem_cons (by rw [List.length_range]; exact lt), List.getElem_range] at er
    obtain ⟨rfl, rfl⟩ := List.cons.inj er
    simp only [den_cons, den_nil, denS, denE, denA, denO, denL, denI, denT, denTs, denC, go_bind, go_pure, go_bad, bindR_ok, bindR_bad, bindR_bindR, bindR_ite, go_ite, go_ofS, go_rdD, go_fzD, go_asB, go_asI, go_slot, slot_s, go_slotF, slotF_s, go_noX, noR_ok, noR_ite, go_opD, go_cmpB, go_cmp, go_isi, go_neg, go_rdL_nil, go_rdL_cons, go_fzL_nil, go_fzL_cons, go_bi1, go_bi2, go_slc, go_tup, go_disp, go_fz, go_seqL, go_seqT, go_enumL, go_enumT, go_zipTT, go_zipLL, go_zipTL, go_zipLT, Nat.sub_self, go_sclS, go_scsS, go_listT, go_listL, go_new, gc_d, gc_ite, take_len, take_app, go_newDc, chkDc_s, modDc_s, go_keyS, go_keyI, go_starT, go_starL, List.set_cons_zero, List.set_cons_succ, List.map_cons, List.map_nil, List.cons_append, List.nil_append, List.replicate_succ, List.replicate_zero, List.length_cons, List.length_nil, Tgs.len, wipeR, List.getD_cons_zero, List.getD_cons_succ, show (0 + 1 + 1 + 1 + 1 + 1 : Nat) ≤ SZ by decide, if_true]
    refine rw_bind ((u_ofL ((dr.at hl).app [.lst (xs.map .str)]) (xs := [.int 0, .int 0, .int 1, .int 3, .int 6]) (by simp) (by simp) n).mono ?_)
    rintro w s3 ⟨⟨d, hd, rfl⟩, dr3⟩
    obtain ⟨s4, dr4, rfl⟩ := dr3.app (by rw [dr.len]; exact hl)
    have dr4 := dr.trans dr4
    obtain ⟨k, rfl, hk⟩ : ∃ k : Nat, d = .int k ∧ k ≤ 6 := by
      simp only [List.mem_cons, List.not_mem_nil, or_false] at hd
      rcases hd with rfl | rfl | rfl | rfl | rfl
      · exact ⟨0, rfl, by decide⟩
      · exact ⟨0, rfl, by decide⟩
      · exact ⟨1, rfl, by decide⟩
      · exact ⟨3, rfl, by decide⟩
      · exact ⟨6, rfl, by decide⟩
    simp only [den_cons, den_nil, denS, denE, denA, denO, denL, denI, denT, denTs, denC, go_bind, go_pure, go_bad, bindR_ok, bindR_bad, bindR_bindR, bindR_ite, go_ite, go_ofS, go_rdD, go_fzD, go_asB, go_asI, go_slot, slot_s, go_slotF, slotF_s, go_noX, noR_ok, noR_ite, go_opD, go_cmpB, go_cmp, go_isi, go_neg, go_rdL_nil, go_rdL_cons, go_fzL_nil, go_fzL_cons, go_bi1, go_bi2, go_slc, go_tup, go_disp, go_fz, go_seqL, go_seqT, go_enumL, go_enumT, go_zipTT, go_zipLL, go_zipTL, go_zipLT, Nat.sub_self, go_sclS, go_scsS, go_listT, go_listL, go_new, gc_d, gc_ite, take_len, take_app, go_newDc, chkDc_s, modDc_s, go_keyS, go_keyI, go_starT, go_starL, List.set_cons_zero, List.set_cons_succ, List.map_cons, List.map_nil, List.cons_append, List.nil_append, List.replicate_succ, List.replicate_zero, List.length_cons, List.length_nil, Tgs.len, wipeR, List.getD_cons_zero, List.getD_cons_succ, go_rngN (show k ≤ 1000 by omega)]
    refine rw_bind (rw_forT (fun i : Nat => .int (i : Int)) (fun rem ρ s' => ∃ (s5 : Sto) (x : Str) (a7 : Option W), Drw l s s5 ∧ s' = s5 ++ [.lst (xs.map .str)] ∧ ρ = [some (.r l), some (.d (.int many)), some (.r s.length), some (.d (.str abcS)), some (.d (.int (i : Int))), some (.d (.int k)), some (.d (.str x)), a7, a8] ∧ x.cps.toList.length + rem.length = k ∧ ∀ c ∈ x.cps.toList, c ∈ abc) _ _ _ ?g0 ?gs ?gd)
    case g0 => exact ⟨s4, Str.ofString "", _, dr4, rfl, rfl, by rw [List.length_range]; exact Nat.zero_add k, fun c hc => nomatch hc⟩
    case gs =>
      rintro j r' ρ s' hj ⟨s5, x, b7, dr5, rfl, rfl, hx, hc⟩
      rw [List.length_cons] at hx
      simp only [den_cons, den_nil, denS, denE, denA, denO, denL, denI, denT, denTs, denC, go_bind, go_pure, go_bad, bindR_ok, bindR_bad, bindR_bindR, bindR_ite, go_ite, go_ofS, go_rdD, go_fzD, go_asB, go_asI, go_slot, slot_s, go_slotF, slotF_s, go_noX, noR_ok, noR_ite, go_opD, go_cmpB, go_cmp, go_isi, go_neg, go_rdL_nil, go_rdL_cons, go_fzL_nil, go_fzL_cons, go_bi1, go_bi2, go_slc, go_tup, go_disp, go_fz, go_seqL, go_seqT, go_enumL, go_enumT, go_zipTT, go_zipLL, go_zipTL, go_zipLT, Nat.sub_self, go_sclS, go_scsS, go_listT, go_listL, go_new, gc_d, gc_ite, take_len, take_app, go_newDc, chkDc_s, modDc_s, go_keyS, go_keyI, go_starT, go_starL, List.set_cons_zero, List.set_cons_succ, List.map_cons, List.map_nil, List.cons_append, List.nil_append, List.replicate_succ, List.replicate_zero, List.length_cons, List.length_nil, Tgs.len, wipeR, List.getD_cons_zero, List.getD_cons_succ]
      refine rw_bind ((u_ofS ((dr5.at hl).app [.lst (xs.map .str)]) n).mono ?_)
      rintro w s6 ⟨⟨c, hc', rfl⟩, dr6⟩
      obtain ⟨s7, dr7, rfl⟩ := dr6.app (by rw [dr5.len]; exact hl)
      simp only [den_cons, den_nil, denS, denE, denA, denO, denL, denI, denT, denTs, denC, go_bind, go_pure, go_bad, bindR_ok, bindR_bad, bindR_bindR, bindR_ite, go_ite, go_ofS, go_rdD, go_fzD, go_asB, go_asI, go_slot, slot_s, go_slotF, slotF_s, go_noX, noR_ok, noR_ite, go_opD, go_cmpB, go_cmp, go_isi, go_neg, go_rdL_nil, go_rdL_cons, go_fzL_nil, go_fzL_cons, go_bi1, go_bi2, go_slc, go_tup, go_disp, go_fz, go_seqL, go_seqT, go_enumL, go_enumT, go_zipTT, go_zipLL, go_zipTL, go_zipLT, Nat.sub_self, go_sclS, go_scsS, go_listT, go_listL, go_new, gc_d, gc_ite, take_len, take_app, go_newDc, chkDc_s, modDc_s, go_keyS, go_keyI, go_starT, go_starL, List.set_cons_zero, List.set_cons_succ, List.map_cons, List.map_nil, List.cons_append, List.nil_append, List.replicate_succ, List.replicate_zero, List.length_cons, List.length_nil, Tgs.len, wipeR, List.getD_cons_zero, List.getD_cons_succ, cat_str (x := x) (y := ⟨#[c]⟩) (show x.length + 1 ≤ SZ by rw [str_len]; unfold SZ; omega)]
      refine ⟨s7, _, _, dr5.trans dr7, rfl, rfl, ?_, ?_⟩
      · rw [str_app, List.length_append]; show _ + 1 + _ = _; omega
      · rw [str_app]
        intro c2 hc2
        rcases List.mem_append.mp hc2 with z | z
        · exact hc c2 z
        · rw [List.mem_singleton.mp z]; exact hc'
    case gd =>
      rintro ρ s' ⟨s5, x, b7, dr5, rfl, rfl, hx, hc⟩
      rw [List.length_nil, Nat.add_zero] at hx
      simp only [den_cons, den_nil, denS, denE, denA, denO, denL, denI, denT, denTs, denC, go_bind, go_pure, go_bad, bindR_ok, bindR_bad, bindR_bindR, bindR_ite, go_ite, go_ofS, go_rdD, go_fzD, go_asB, go_asI, go_slot, slot_s, go_slotF, slotF_s, go_noX, noR_ok, noR_ite, go_opD, go_cmpB, go_cmp, go_isi, go_neg, go_rdL_nil, go_rdL_cons, go_fzL_nil, go_fzL_cons, go_bi1, go_bi2, go_slc, go_tup, go_disp, go_fz, go_seqL, go_seqT, go_enumL, go_enumT, go_zipTT, go_zipLL, go_zipTL, go_zipLT, Nat.sub_self, go_sclS, go_scsS, go_listT, go_listL, go_new, gc_d, gc_ite, take_len, take_app, go_newDc, chkDc_s, modDc_s, go_keyS, go_keyI, go_starT, go_starL, List.set_cons_zero, List.set_cons_succ, List.map_cons, List.map_nil, List.cons_append, List.nil_append, List.replicate_succ, List.replicate_zero, List.length_cons, List.length_nil, Tgs.len, wipeR, List.getD_cons_zero, List.getD_cons_succ, add_i]
      refine rw_bind ((u_take ((dr5.at hl).app [.lst (xs.map .str)]) (lim := (k : Int) + 1) (by omega) (by omega) (n + 1)).mono ?_)
      rintro w s6 ⟨⟨at', rfl, hat⟩, dr6⟩
      obtain ⟨s7, dr7, rfl⟩ := dr6.app (by rw [dr5.len]; exact hl)
      have dr7 := dr5.trans dr7
      have hz : x.length ≤ SZ := by rw [str_len]; unfold SZ; omega
      have qz : (Str.ofString "q").length ≤ SZ := by decide +kernel
      have h9 : i < 9 := by omega
      have ia : idxD (.str abcS) (.int (i : Int)) = some (.str ⟨#[abc.getD i 0]⟩) := idx_str (by decide +kernel) (by
        rw [abcS_l, List.getD_eq_getElem?_getD, List.getElem?_eq_getElem (show i < abc.length by show i < 26; omega)]; rfl)
      -- the name
      obtain ⟨y, hy⟩ : ∃ y : Str, y.cps.toList = x.cps.toList.take at' ++ [abc.getD i 0] ++ (if k = 0 then [] else [113]) ++ x.cps.toList.drop at' := ⟨⟨(_ : List Nat).toArray⟩, rfl⟩
      have e1 : (((⟨(x.cps.toList.take at').toArray⟩ : Str) ++ (⟨#[abc.getD i 0]⟩ : Str)) ++ (⟨((Str.ofString "q").cps.toList.take k).toArray⟩ : Str)) ++ (⟨(x.cps.toList.drop at').toArray⟩ : Str) = y := str_eq_of_list (by
        rw [hy, str_app, str_app, str_app, qcut])
      have lq : (⟨((Str.ofString "q").cps.toList.take k).toArray⟩ : Str).length ≤ 1 := by
        rw [str_len, qcut]; split <;> simp
      have l1 : (⟨(x.cps.toList.take at').toArray⟩ : Str).length ≤ 6 := by rw [str_len]; simp only [List.length_take]; omega
      have l2 : (⟨(x.cps.toList.drop at').toArray⟩ : Str).length ≤ 6 := by rw [str_len]; simp only [List.length_drop]; omega
      have l3 : (⟨#[abc.getD i 0]⟩ : Str).length = 1 := rfl
      have la : ∀ a b : Str, (a ++ b).length = a.length + b.length := fun a b => by rw [str_len, str_len, str_len, str_app, List.length_append]
      have q1 := cat_str (x := ⟨(x.cps.toList.take at').toArray⟩) (y := ⟨#[abc.getD i 0]⟩) (by unfold SZ; omega)
      have q2 := cat_str (x := (⟨(x.cps.toList.take at').toArray⟩ : Str) ++ (⟨#[abc.getD i 0]⟩ : Str)) (y := ⟨((Str.ofString "q").cps.toList.take k).toArray⟩) (by rw [la]; unfold SZ; omega)
      have q3 := cat_str (x := ((⟨(x.cps.toList.take at').toArray⟩ : Str) ++ (⟨#[abc.getD i 0]⟩ : Str)) ++ (⟨((Str.ofString "q").cps.toList.take k).toArray⟩ : Str)) (y := ⟨(x.cps.toList.drop at').toArray⟩) (by rw [la, la]; unfold SZ; omega)
      rw [e1] at q3
      -- it is a name
      have ylen : y.cps.toList.length = k + 1 + (if k = 0 then 0 else 1) := by
        have : x.cps.toList.length = k := hx
        rw [hy, List.length_append, List.length_append, List.length_append, List.length_take, List.length_drop, List.length_singleton]
        split
        · rw [List.length_nil]; omega
        · rw [List.length_singleton]; omega
      have ymem : ∀ c ∈ y.cps.toList, c ∈ abc := by
        rw [hy]
        intro c hc2
        rcases List.mem_append.mp hc2 with z | z
        · rcases List.mem_append.mp z with z | z
          · rcases List.mem_append.mp z with z | z
            · exact hc c (List.mem_of_mem_take z)
            · rw [List.mem_singleton.mp z]; exact abc_mem i h9
          · split at z
            · cases z
            · rw [List.mem_singleton.mp z]; decide
        · exact hc c (List.mem_of_mem_drop z)
      have yown : abc.getD i 0 ∈ y.cps.toList := by rw [hy]; simp
      have ynm : Nm y := by
        refine ⟨by rw [ylen]; omega, by rw [ylen]; split <;> omega, ymem, fun z => ?_⟩
        obtain ⟨w1, w2⟩ := wds_noq y z
        by_cases k0 : k = 0
        · rw [ylen, if_pos k0] at w2; omega
        · refine w1 ?_
          rw [hy, if_neg k0]; simp
      -- the other one
      obtain ⟨u, hu⟩ : ∃ u : Str, u = (Txt.mul ⟨#[abc.getD i 0]⟩ 7) ++ Str.ofString "q" := ⟨_, rfl⟩
      have ul : u.cps.toList = [abc.getD i 0, abc.getD i 0, abc.getD i 0, abc.getD i 0, abc.getD i 0, abc.getD i 0, abc.getD i 0, 113] := by
        rw [hu, str_app, rep7]; rfl
      have unm : Nm u := by
        refine ⟨by rw [ul]; simp, by rw [ul]; simp, ?_, fun z => (wds_noq u z).1 (by rw [ul]; simp)⟩
        rw [ul]
        intro c hc2
        simp only [List.mem_cons, List.not_mem_nil, or_false] at hc2
        rcases hc2 with rfl | rfl | rfl | rfl | rfl | rfl | rfl | rfl
        all_goals first | exact abc_mem i h9 | decide
      have unew : u ∉ xs := fun z => by
        obtain ⟨_, j, hj, hm2⟩ := hx3 u z
        rw [ul] at hm2
        simp only [List.mem_cons, List.not_mem_nil, or_false] at hm2
        have := abc_inj j (by omega) i h9
        have := abc_q j (by omega)
        rcases hm2 with e | e | e | e | e | e | e | e
        all_goals first | (have := abc_inj j (by omega) i h9 e; omega) | contradiction
      have m7 : binD .mul (.str ⟨#[abc.getD i 0]⟩) (.int 7) = some (.str (Txt.mul ⟨#[abc.getD i 0]⟩ 7)) := mul_txt ⟨by decide, by decide, by rw [l3]; decide⟩
      have c7 : binD .add (.str (Txt.mul ⟨#[abc.getD i 0]⟩ 7)) (.str (Str.ofString "q")) = some (.str u) := by
        rw [hu]
        exact cat_str (by rw [str_len, rep7]; show 7 + 1 ≤ SZ; decide)
      have lx : (xs.map PyData.str).length < SZ := by rw [List.length_map]; unfold SZ; omega
      have cn : cmpD .notin (.str y) (.list (xs.map .str)) = some (!decide (y ∈ xs)) := by
        show (inD _ _).map _ = _
        rw [inL_strs]; rfl
      have fin : ∀ v : Str, Nm v → abc.getD i 0 ∈ v.cps.toList → v ∉ xs → (∃ (s2 : Sto) (xs' : List Str) (t : Nat) (a4 a5 a6 a7 a8 : Option W), Drw l s s2 ∧ s7 ++ [.lst (xs.map .str ++ [.str v])] = s2 ++ [.lst (xs'.map .str)] ∧ [some (.r l), some (.d (.int many)), some (.r s.length), some (.d (.str abcS)), some (W.d (.int (i : Int))), some (W.d (.int k)), some (W.d (.str y)), b7, some (W.d (.int (at' : Int)))] = [some (.r l), some (.d (.int many)), some (.r s.length), some (.d (.str abcS)), a4, a5, a6, a7, a8] ∧ (List.range many).drop (i + 1) = (List.range many).drop t ∧ t ≤ many ∧ xs'.length = t ∧ xs'.Nodup ∧ ∀ x ∈ xs', Nm x ∧ ∃ i, i < t ∧ abc.getD i 0 ∈ x.cps.toList) := fun v v1 v2 v3 => by
        refine ⟨s7, xs ++ [v], i + 1, _, _, _, _, _, dr7, by rw [List.map_append]; rfl, rfl, rfl, lt, by rw [List.length_append, List.length_singleton]; omega, ?_, ?_⟩
        · rw [List.nodup_append]
          exact ⟨hx2, by simp, fun a ha b hb z => v3 (by rw [← List.mem_singleton.mp hb, ← z]; exact ha)⟩
        · intro x' hx'
          rcases List.mem_append.mp hx' with z | z
          · obtain ⟨a, j, b, c⟩ := hx3 x' z
            exact ⟨a, j, by omega, c⟩
          · rw [List.mem_singleton.mp z]
            exact ⟨v1, i, by omega, v2⟩
      simp only [den_cons, den_nil, denS, denE, denA, denO, denL, denI, denT, denTs, denC, go_bind, go_pure, go_bad, bindR_ok, bindR_bad, bindR_bindR, bindR_ite, go_ite, go_ofS, go_rdD, go_fzD, go_asB, go_asI, go_slot, slot_s, go_slotF, slotF_s, go_noX, noR_ok, noR_ite, go_opD, go_cmpB, go_cmp, go_isi, go_neg, go_rdL_nil, go_rdL_cons, go_fzL_nil, go_fzL_cons, go_bi1, go_bi2, go_slc, go_tup, go_disp, go_fz, go_seqL, go_seqT, go_enumL, go_enumT, go_zipTT, go_zipLL, go_zipTL, go_zipLT, Nat.sub_self, go_sclS, go_scsS, go_listT, go_listL, go_new, gc_d, gc_ite, take_len, take_app, go_newDc, chkDc_s, modDc_s, go_keyS, go_keyI, go_starT, go_starL, List.set_cons_zero, List.set_cons_succ, List.map_cons, List.map_nil, List.cons_append, List.nil_append, List.replicate_succ, List.replicate_zero, List.length_cons, List.length_nil, Tgs.len, wipeR, List.getD_cons_zero, List.getD_cons_succ, slc_str hz, slc_lo hz, slc_str qz, ia, q1, q2, q3, chkL_s, go_chk _ (dr7.get _), go_cmpR _ (dr7.get _), cn]
      by_cases z : y ∈ xs
      · simp only [decide_eq_true z, Bool.not_true, Bool.false_eq_true, if_false, den_cons, den_nil, denS, denE, denA, denO, denL, denI, denT, denTs, denC, go_bind, go_pure, go_bad, bindR_ok, bindR_bad, bindR_bindR, bindR_ite, go_ite, go_ofS, go_rdD, go_fzD, go_asB, go_asI, go_slot, slot_s, go_slotF, slotF_s, go_noX, noR_ok, noR_ite, go_opD, go_cmpB, go_cmp, go_isi, go_neg, go_rdL_nil, go_rdL_cons, go_fzL_nil, go_fzL_cons, go_bi1, go_bi2, go_slc, go_tup, go_disp, go_fz, go_seqL, go_seqT, go_enumL, go_enumT, go_zipTT, go_zipLL, go_zipTL, go_zipLT, Nat.sub_self, go_sclS, go_scsS, go_listT, go_listL, go_new, gc_d, gc_ite, take_len, take_app, go_newDc, chkDc_s, modDc_s, go_keyS, go_keyI, go_starT, go_starL, List.set_cons_zero, List.set_cons_succ, List.map_cons, List.map_nil, List.cons_append, List.nil_append, List.replicate_succ, List.replicate_zero, List.length_cons, List.length_nil, Tgs.len, wipeR, List.getD_cons_zero, List.getD_cons_succ, ia, m7, c7, modL_s, go_mod _ _ (dr7.get _), app_ok _ lx, dr7.put]
        exact fin u unm (by rw [ul]; simp) unew
      · simp only [decide_eq_false z, Bool.not_false, if_true, den_cons, den_nil, denS, denE, denA, denO, denL, denI, denT, denTs, denC, go_bind, go_pure, go_bad, bindR_ok, bindR_bad, bindR_bindR, bindR_ite, go_ite, go_ofS, go_rdD, go_fzD, go_asB, go_asI, go_slot, slot_s, go_slotF, slotF_s, go_noX, noR_ok, noR_ite, go_opD, go_cmpB, go_cmp, go_isi, go_neg, go_rdL_nil, go_rdL_cons, go_fzL_nil, go_fzL_cons, go_bi1, go_bi2, go_slc, go_tup, go_disp, go_fz, go_seqL, go_seqT, go_enumL, go_enumT, go_zipTT, go_zipLL, go_zipTL, go_zipLT, Nat.sub_self, go_sclS, go_scsS, go_listT, go_listL, go_new, gc_d, gc_ite, take_len, take_app, go_newDc, chkDc_s, modDc_s, go_keyS, go_keyI, go_starT, go_starL, List.set_cons_zero, List.set_cons_succ, List.map_cons, List.map_nil, List.cons_append, List.nil_append, List.replicate_succ, List.replicate_zero, List.length_cons, List.length_nil, Tgs.len, wipeR, List.getD_cons_zero, List.getD_cons_succ, modL_s, go_mod _ _ (dr7.get _), app_ok _ lx, dr7.put]
        exact fin y ynm yown z
  case hd =>
    rintro ρ s' ⟨s2, xs, t, a4, a5, a6, a7, a8, dr, rfl, rfl, er, ht, hx1, hx2, hx3⟩
    have tm : t = many := by
      by_cases z : t < many
      · rw [List.drop_eq_getElem_cons (by rw [List.length_range]; exact z)] at er
        cases er
      · omega
    simp only [den_cons, den_nil, denS, denE, denA, denO, denL, denI, denT, denTs, denC, go_bind, go_pure, go_bad, bindR_ok, bindR_bad, bindR_bindR, bindR_ite, go_ite, go_ofS, go_rdD, go_fzD, go_asB, go_asI, go_slot, slot_s, go_slotF, slotF_s, go_noX, noR_ok, noR_ite, go_opD, go_cmpB, go_cmp, go_isi, go_neg, go_rdL_nil, go_rdL_cons, go_fzL_nil, go_fzL_cons, go_bi1, go_bi2, go_slc, go_tup, go_disp, go_fz, go_seqL, go_seqT, go_enumL, go_enumT, go_zipTT, go_zipLL, go_zipTL, go_zipLT, Nat.sub_self, go_sclS, go_scsS, go_listT, go_listL, go_new, gc_d, gc_ite, take_len, take_app, go_newDc, chkDc_s, modDc_s, go_keyS, go_keyI, go_starT, go_starL, List.set_cons_zero, List.set_cons_succ, List.map_cons, List.map_nil, List.cons_append, List.nil_append, List.replicate_succ, List.replicate_zero, List.length_cons, List.length_nil, Tgs.len, wipeR, List.getD_cons_zero, List.getD_cons_succ, go_fzm, go_fzC (dr.get _), dr.put, dr.app_take]
    exact ⟨⟨xs, rfl, fun x hx => (hx3 x hx).1, hx2, by omega⟩, by rw [dr.app_take]; exact dr⟩
end Gk
namespace Gk
open PySem PySem.Spec L2 Gd
theorem upS_lt {l : List Str} (h : l.Nodup) : (upS l).Pairwise fun a b => strLt a b = true := by
  have p := upS_pw l
  have n2 : (upS l).Pairwise (· ≠ ·) := (upS_perm l).nodup_iff.mpr h
  refine (List.Pairwise.and p n2).imp fun {a b} q => ?_
  simp only [strLt, decide_eq_true_eq]
  exact Decidable.byContradiction fun z => q.2 (str_eq_of_list (List.le_antisymm q.1 (List.not_lt.mp z)))
theorem go_sort_nm {l : List Str} (hl : l.length ≤ 1000) (hn : ∀ x ∈ l, Nm x) (s : Sto) : go (sortM false [.d (.list (l.map .str))]) s = .ok ((upS l).map .str) s := by
  rw [go_sortL (rev := false) (okSort_strs (l := l) (by unfold SZ; omega) fun x hx => (hn x hx).strOk), sort_upS]
def NmsU (ns : List Str) : Prop := Ns ns ∧ ns.Pairwise (fun a b => strLt a b = true) ∧ ns ≠ []
theorem add_1n' (j : Nat) : binD .add (.int 1) (.int (j : Int)) = some (.int ((1 + j : Nat) : Int)) := by
  simp only [binD]
  congr 2
theorem erase_map {α β : Type} (f : α → β) : ∀ (l : List α) (i : Nat), (l.map f).eraseIdx i = (l.eraseIdx i).map f
  | [], _ => rfl
  | x :: l, 0 => rfl
  | x :: l, i + 1 => by rw [List.map_cons, List.eraseIdx_cons_succ, List.eraseIdx_cons_succ, List.map_cons, erase_map f l i]
theorem perm_move {a b : List Str} {i : Nat} (hi : i < b.length) : (a ++ [b[i]] ++ b.eraseIdx i).Perm (a ++ b) := by
  rw [List.append_assoc]
  refine List.Perm.append_left a ?_
  rw [List.singleton_append]
  have key : ∀ (b : List Str) (i : Nat) (hi : i < b.length), (b[i] :: b.eraseIdx i).Perm b := by
    intro b
    induction b with
    | nil => intro i hi; simp at hi
    | cons x b ih =>
      intro i hi
      cases i with
      | zero => simp
      | succ i =>
        simp only [List.getElem_cons_succ, List.eraseIdx_cons_succ]
        exact (List.Perm.swap _ _ _).trans ((ih i (by simpa using hi)).cons x)
  exact key b i hi
def Lf1 (ns : List Str) (t : Tr) : Prop := (∀ lv, 1 ≤ lv → t.Ok ns lv) ∧ t.nodes = 1 ∧ t.leaf = true
theorem simple_3 {l : Nat} {s : Sto} (h : Wat l s) {ns zs : List Str} (pw : zs.Pairwise fun a b => strLt a b = true) (sub : ∀ x ∈ zs, x ∈ ns) (l1 : 1 ≤ zs.length) (l2 : zs.length ≤ 9) (x1 x3 x4 : Option W) (way : Nat) (n : Nat) :
    RWp (go (denSs (run tab (n + 2)) B__law_simple_3 [some (.r l), x1, some (.d (.tuple (zs.map .str))), x3, x4, some (.d (.int (way : Int)))]) s) fun p s' => (∃ t : Tr, p.1 = .rt (.d t.d) ∧ Lf1 ns t) ∧ Drw l s s' := by
  unfold B__law_simple_3
  have z1 : (cmpD .eq (.int (way : Int)) (.int 1)) = some (decide (way = 1)) := by
    rw [cmp_eqI]; congr 1; rw [Bool.eq_iff_iff]; simp only [decide_eq_true_eq]; omega
  have lt : biD .len [.tuple (zs.map .str)] = some (.int (zs.length : Nat)) := by rw [len_T, List.length_map]
  simp only [den_cons, den_nil, denS, denE, denA, denO, denL, denI, denT, denTs, denC, go_bind, go_pure, go_bad, bindR_ok, bindR_bad, bindR_bindR, bindR_ite, go_ite, go_ofS, go_rdD, go_fzD, go_asB, go_asI, go_slot, slot_s, go_slotF, slotF_s, go_noX, noR_ok, noR_ite, go_opD, go_cmpB, go_cmp, go_isi, go_neg, go_rdL_nil, go_rdL_cons, go_fzL_nil, go_fzL_cons, go_bi1, go_bi2, go_slc, go_tup, go_disp, go_fz, go_seqL, go_seqT, go_enumL, go_enumT, go_zipTT, go_zipLL, go_zipTL, go_zipLT, Nat.sub_self, go_sclS, go_scsS, go_listT, go_listL, go_new, gc_d, gc_ite, take_len, take_app, go_newDc, chkDc_s, modDc_s, go_keyS, go_keyI, go_starT, go_starL, List.set_cons_zero, List.set_cons_succ, List.map_cons, List.map_nil, List.cons_append, List.nil_append, List.replicate_succ, List.replicate_zero, List.length_cons, List.length_nil, Tgs.len, wipeR, List.getD_cons_zero, List.getD_cons_succ, z1]
  cases hb : decide (way = 1)
  all_goals
    simp only [Bool.false_eq_true, if_false, if_true, den_cons, den_nil, denS, denE, denA, denO, denL, denI, denT, denTs, denC, go_bind, go_pure, go_bad, bindR_ok, bindR_bad, bindR_bindR, bindR_ite, go_ite, go_ofS, go_rdD, go_fzD, go_asB, go_asI, go_slot, slot_s, go_slotF, slotF_s, go_noX, noR_ok, noR_ite, go_opD, go_cmpB, go_cmp, go_isi, go_neg, go_rdL_nil, go_rdL_cons, go_fzL_nil, go_fzL_cons, go_bi1, go_bi2, go_slc, go_tup, go_disp, go_fz, go_seqL, go_seqT, go_enumL, go_enumT, go_zipTT, go_zipLL, go_zipTL, go_zipLT, Nat.sub_self, go_sclS, go_scsS, go_listT, go_listL, go_new, gc_d, gc_ite, take_len, take_app, go_newDc, chkDc_s, modDc_s, go_keyS, go_keyI, go_starT, go_starL, List.set_cons_zero, List.set_cons_succ, List.map_cons, List.map_nil, List.cons_append, List.nil_append, List.replicate_succ, List.replicate_zero, List.length_cons, List.length_nil, Tgs.len, wipeR, List.getD_cons_zero, List.getD_cons_succ, lt]
    refine rw_bind ((u_take h (lim := (zs.length : Int)) (by omega) (by omega) (n + 1)).mono ?_)
    rintro w s6 ⟨⟨i, rfl, hi⟩, dr6⟩
    have ok : ∀ b lv, 1 ≤ lv → (Tr.pick b (1 + i) zs).Ok ns lv := fun b lv hv => ⟨hv, pw, sub, by omega, by omega⟩
    simp only [den_cons, den_nil, denS, denE, denA, denO, denL, denI, denT, denTs, denC, go_bind, go_pure, go_bad, bindR_ok, bindR_bad, bindR_bindR, bindR_ite, go_ite, go_ofS, go_rdD, go_fzD, go_asB, go_asI, go_slot, slot_s, go_slotF, slotF_s, go_noX, noR_ok, noR_ite, go_opD, go_cmpB, go_cmp, go_isi, go_neg, go_rdL_nil, go_rdL_cons, go_fzL_nil, go_fzL_cons, go_bi1, go_bi2, go_slc, go_tup, go_disp, go_fz, go_seqL, go_seqT, go_enumL, go_enumT, go_zipTT, go_zipLL, go_zipTL, go_zipLT, Nat.sub_self, go_sclS, go_scsS, go_listT, go_listL, go_new, gc_d, gc_ite, take_len, take_app, go_newDc, chkDc_s, modDc_s, go_keyS, go_keyI, go_starT, go_starL, List.set_cons_zero, List.set_cons_succ, List.map_cons, List.map_nil, List.cons_append, List.nil_append, List.replicate_succ, List.replicate_zero, List.length_cons, List.length_nil, Tgs.len, wipeR, List.getD_cons_zero, List.getD_cons_succ, add_1n', show (0 + 1 + 1 + 1 : Nat) ≤ SZ by decide, if_true]
    first
      | exact ⟨⟨.pick false (1 + i) zs, rfl, ok _, rfl, rfl⟩, dr6⟩
      | exact ⟨⟨.pick true (1 + i) zs, rfl, ok _, rfl, rfl⟩, dr6⟩
theorem simple_2 {l m : Nat} {s : Sto} (h : Wat l s) {ns as : List Str} (hn : ∀ x ∈ ns, Nm x) (g : s[m]? = some (.lst (as.map .str))) (nd : as.Nodup) (sub : ∀ x ∈ as, x ∈ ns) (l1 : 1 ≤ as.length) (l2 : as.length ≤ 9) (x1 x3 x4 x5 : Option W) (n : Nat) :
    RWp (go (denSs (run tab (n + 2)) B__law_simple_2 [some (.r l), x1, some (.r m), x3, x4, x5]) s) fun p s' => (∃ t : Tr, p.1 = .rt (.d t.d) ∧ Lf1 ns t) ∧ Drw l s s' := by
  unfold B__law_simple_2
  have hl := h.lt
  have pw := upS_lt nd
  have sub2 : ∀ x ∈ upS as, x ∈ ns := fun x hx => sub x ((upS_perm as).mem_iff.mp hx)
  have le : (upS as).length = as.length := (upS_perm as).length_eq
  have srt : go (sortM false [.r m]) s = .ok ((upS as).map .str) s := by
    unfold sortM
    simp only [go_bind, go_rdC g, bindR_ok, okSort_strs (l := as) (by unfold SZ; omega) (fun x hx => (hn x (sub x hx)).strOk), if_true, go_pure, sort_upS]
  simp only [den_cons, den_nil, denS, denE, denA, denO, denL, denI, denT, denTs, denC, go_bind, go_pure, go_bad, bindR_ok, bindR_bad, bindR_bindR, bindR_ite, go_ite, go_ofS, go_rdD, go_fzD, go_asB, go_asI, go_slot, slot_s, go_slotF, slotF_s, go_noX, noR_ok, noR_ite, go_opD, go_cmpB, go_cmp, go_isi, go_neg, go_rdL_nil, go_rdL_cons, go_fzL_nil, go_fzL_cons, go_bi1, go_bi2, go_slc, go_tup, go_disp, go_fz, go_seqL, go_seqT, go_enumL, go_enumT, go_zipTT, go_zipLL, go_zipTL, go_zipLT, Nat.sub_self, go_sclS, go_scsS, go_listT, go_listL, go_new, gc_d, gc_ite, take_len, take_app, go_newDc, chkDc_s, modDc_s, go_keyS, go_keyI, go_starT, go_starL, List.set_cons_zero, List.set_cons_succ, List.map_cons, List.map_nil, List.cons_append, List.nil_append, List.replicate_succ, List.replicate_zero, List.length_cons, List.length_nil, Tgs.len, wipeR, List.getD_cons_zero, List.getD_cons_succ, srt, tup_L]
  refine rw_bind ((u_take h (lim := 3) (by decide) (by decide) (n + 1)).mono ?_)
  rintro w s4 ⟨⟨way, rfl, hway⟩, dr4⟩
  simp only [den_cons, den_nil, denS, denE, denA, denO, denL, denI, denT, denTs, denC, go_bind, go_pure, go_bad, bindR_ok, bindR_bad, bindR_bindR, bindR_ite, go_ite, go_ofS, go_rdD, go_fzD, go_asB, go_asI, go_slot, slot_s, go_slotF, slotF_s, go_noX, noR_ok, noR_ite, go_opD, go_cmpB, go_cmp, go_isi, go_neg, go_rdL_nil, go_rdL_cons, go_fzL_nil, go_fzL_cons, go_bi1, go_bi2, go_slc, go_tup, go_disp, go_fz, go_seqL, go_seqT, go_enumL, go_enumT, go_zipTT, go_zipLL, go_zipTL, go_zipLT, Nat.sub_self, go_sclS, go_scsS, go_listT, go_listL, go_new, gc_d, gc_ite, take_len, take_app, go_newDc, chkDc_s, modDc_s, go_keyS, go_keyI, go_starT, go_starL, List.set_cons_zero, List.set_cons_succ, List.map_cons, List.map_nil, List.cons_append, List.nil_append, List.replicate_succ, List.replicate_zero, List.length_cons, List.length_nil, Tgs.len, wipeR, List.getD_cons_zero, List.getD_cons_succ, cmp_eqI]
  by_cases z : (way : Int) = 0
  · obtain ⟨x, r, er⟩ : ∃ x r, upS as = x :: r := by
      cases er : upS as with
      | nil => rw [er, List.length_nil] at le; omega
      | cons x r => exact ⟨x, r, rfl⟩
    have i0 : idxD (.tuple ((upS as).map .str)) (.int 0) = some (.str x) := by rw [er, List.map_cons]; exact idx_0 _ _
    simp only [decide_eq_true z, if_true, den_cons, den_nil, denS, denE, denA, denO, denL, denI, denT, denTs, denC, go_bind, go_pure, go_bad, bindR_ok, bindR_bad, bindR_bindR, bindR_ite, go_ite, go_ofS, go_rdD, go_fzD, go_asB, go_asI, go_slot, slot_s, go_slotF, slotF_s, go_noX, noR_ok, noR_ite, go_opD, go_cmpB, go_cmp, go_isi, go_neg, go_rdL_nil, go_rdL_cons, go_fzL_nil, go_fzL_cons, go_bi1, go_bi2, go_slc, go_tup, go_disp, go_fz, go_seqL, go_seqT, go_enumL, go_enumT, go_zipTT, go_zipLL, go_zipTL, go_zipLT, Nat.sub_self, go_sclS, go_scsS, go_listT, go_listL, go_new, gc_d, gc_ite, take_len, take_app, go_newDc, chkDc_s, modDc_s, go_keyS, go_keyI, go_starT, go_starL, List.set_cons_zero, List.set_cons_succ, List.map_cons, List.map_nil, List.cons_append, List.nil_append, List.replicate_succ, List.replicate_zero, List.length_cons, List.length_nil, Tgs.len, wipeR, List.getD_cons_zero, List.getD_cons_succ, i0, show (0 + 1 + 1 : Nat) ≤ SZ by decide]
    exact ⟨⟨.work x, rfl, fun lv hv => ⟨sub2 x (by rw [er]; exact List.mem_cons_self), hv⟩, rfl, rfl⟩, dr4⟩
  · simp only [decide_eq_false z, Bool.false_eq_true, if_false, den_cons, den_nil, denS, denE, denA, denO, denL, denI, denT, denTs, denC, go_bind, go_pure, go_bad, bindR_ok, bindR_bad, bindR_bindR, bindR_ite, go_ite, go_ofS, go_rdD, go_fzD, go_asB, go_asI, go_slot, slot_s, go_slotF, slotF_s, go_noX, noR_ok, noR_ite, go_opD, go_cmpB, go_cmp, go_isi, go_neg, go_rdL_nil, go_rdL_cons, go_fzL_nil, go_fzL_cons, go_bi1, go_bi2, go_slc, go_tup, go_disp, go_fz, go_seqL, go_seqT, go_enumL, go_enumT, go_zipTT, go_zipLL, go_zipTL, go_zipLT, Nat.sub_self, go_sclS, go_scsS, go_listT, go_listL, go_new, gc_d, gc_ite, take_len, take_app, go_newDc, chkDc_s, modDc_s, go_keyS, go_keyI, go_starT, go_starL, List.set_cons_zero, List.set_cons_succ, List.map_cons, List.map_nil, List.cons_append, List.nil_append, List.replicate_succ, List.replicate_zero, List.length_cons, List.length_nil, Tgs.len, wipeR, List.getD_cons_zero, List.getD_cons_succ]
    exact (simple_3 (dr4.at hl) pw sub2 (by omega) (by omega) x1 x3 x4 way n).mono fun p s' q => ⟨q.1, dr4.trans q.2⟩
theorem u_simple {l : Nat} {s : Sto} (h : Wat l s) {ns : List Str} (hn : NmsU ns) (n : Nat) : RWp (go (run tab (n + 3) F__law_simple [.r l, .d (.list (ns.map .str))]) s) fun w s' => (∃ t : Tr, w = .d t.d ∧ Lf1 ns t) ∧ Drw l s s' := by
  rw [go_run _ T__law_simple (n + 2) _ _ ⟨rfl, by decide⟩, go_body]
  unfold D__law_simple B__law_simple
  have hl := h.lt
  obtain ⟨⟨hn1, hn2⟩, hn3, hn4⟩ := hn
  have hp : 0 < ns.length := List.length_pos_iff.mpr hn4
  simp only [den_cons, den_nil, denS, denE, denA, denO, denL, denI, denT, denTs, denC, go_bind, go_pure, go_bad, bindR_ok, bindR_bad, bindR_bindR, bindR_ite, go_ite, go_ofS, go_rdD, go_fzD, go_asB, go_asI, go_slot, slot_s, go_slotF, slotF_s, go_noX, noR_ok, noR_ite, go_opD, go_cmpB, go_cmp, go_isi, go_neg, go_rdL_nil, go_rdL_cons, go_fzL_nil, go_fzL_cons, go_bi1, go_bi2, go_slc, go_tup, go_disp, go_fz, go_seqL, go_seqT, go_enumL, go_enumT, go_zipTT, go_zipLL, go_zipTL, go_zipLT, Nat.sub_self, go_sclS, go_scsS, go_listT, go_listL, go_new, gc_d, gc_ite, take_len, take_app, go_newDc, chkDc_s, modDc_s, go_keyS, go_keyI, go_starT, go_starL, List.set_cons_zero, List.set_cons_succ, List.map_cons, List.map_nil, List.cons_append, List.nil_append, List.replicate_succ, List.replicate_zero, List.length_cons, List.length_nil, Tgs.len, wipeR, List.getD_cons_zero, List.getD_cons_succ, Nat.zero_le, if_true, len_L, List.append_assoc, List.length_append, Nat.zero_add]
  refine rw_gc (rw_bind ((u_take (h.app [.lst [], .lst (ns.map .str)]) (lim := ((ns.map PyData.str).length : Int)) (by rw [List.length_map]; omega) (by rw [List.length_map]; omega) (n + 1)).mono ?_))
  rintro w s1 ⟨⟨j, rfl, hj⟩, dr1⟩
  rw [List.length_map] at hj
  simp only [den_cons, den_nil, denS, denE, denA, denO, denL, denI, denT, denTs, denC, go_bind, go_pure, go_bad, bindR_ok, bindR_bad, bindR_bindR, bindR_ite, go_ite, go_ofS, go_rdD, go_fzD, go_asB, go_asI, go_slot, slot_s, go_slotF, slotF_s, go_noX, noR_ok, noR_ite, go_opD, go_cmpB, go_cmp, go_isi, go_neg, go_rdL_nil, go_rdL_cons, go_fzL_nil, go_fzL_cons, go_bi1, go_bi2, go_slc, go_tup, go_disp, go_fz, go_seqL, go_seqT, go_enumL, go_enumT, go_zipTT, go_zipLL, go_zipTL, go_zipLT, Nat.sub_self, go_sclS, go_scsS, go_listT, go_listL, go_new, gc_d, gc_ite, take_len, take_app, go_newDc, chkDc_s, modDc_s, go_keyS, go_keyI, go_starT, go_starL, List.set_cons_zero, List.set_cons_succ, List.map_cons, List.map_nil, List.cons_append, List.nil_append, List.replicate_succ, List.replicate_zero, List.length_cons, List.length_nil, Tgs.len, wipeR, List.getD_cons_zero, List.getD_cons_succ, add_1n', go_rngN (show 1 + j ≤ 1000 by omega)]
  obtain ⟨s2, dr2, rfl⟩ := dr1.app hl
  refine rw_bind (rw_forT (fun i : Nat => .int (i : Int)) (fun rem ρ s' => ∃ (s3 : Sto) (as bs : List Str) (x4 : Option W), Drw l s s3 ∧ s' = s3 ++ [.lst (as.map .str), .lst (bs.map .str)] ∧ ρ = [some (.r l), some (.d (.list (ns.map .str))), some (.r s.length), some (.r (s.length + 1)), x4, none] ∧ (as ++ bs).Perm ns ∧ as.length + rem.length = 1 + j) _ _ _ ?h0 ?hs ?hd)
  case h0 => exact ⟨s2, [], ns, _, dr2, rfl, rfl, List.Perm.refl _, by rw [List.length_range]; simp⟩
  case hs =>
    rintro i r ρ s' hi ⟨s3, as, bs, x4, dr3, rfl, rfl, pm, e⟩
    rw [List.length_cons] at e
    have pl := pm.length_eq
    rw [List.length_append] at pl
    unfold B__law_simple_1
    simp only [den_cons, den_nil, denS, denE, denA, denO, denL, denI, denT, denTs, denC, go_bind, go_pure, go_bad, bindR_ok, bindR_bad, bindR_bindR, bindR_ite, go_ite, go_ofS, go_rdD, go_fzD, go_asB, go_asI, go_slot, slot_s, go_slotF, slotF_s, go_noX, noR_ok, noR_ite, go_opD, go_cmpB, go_cmp, go_isi, go_neg, go_rdL_nil, go_rdL_cons, go_fzL_nil, go_fzL_cons, go_bi1, go_bi2, go_slc, go_tup, go_disp, go_fz, go_seqL, go_seqT, go_enumL, go_enumT, go_zipTT, go_zipLL, go_zipTL, go_zipLT, Nat.sub_self, go_sclS, go_scsS, go_listT, go_listL, go_new, gc_d, gc_ite, take_len, take_app, go_newDc, chkDc_s, modDc_s, go_keyS, go_keyI, go_starT, go_starL, List.set_cons_zero, List.set_cons_succ, List.map_cons, List.map_nil, List.cons_append, List.nil_append, List.replicate_succ, List.replicate_zero, List.length_cons, List.length_nil, Tgs.len, wipeR, List.getD_cons_zero, List.getD_cons_succ, chkL_s, go_chk _ (dr3.two_0 _ _), go_chk _ (dr3.two_1 _ _), go_biC _ (dr3.two_1 _ _), len_L]
    refine rw_bind ((u_take ((dr3.at hl).app _) (lim := ((bs.map PyData.str).length : Int)) (by rw [List.length_map]; omega) (by rw [List.length_map]; omega) (n + 1)).mono ?_)
    rintro w s4 ⟨⟨k, rfl, hk⟩, dr4⟩
    obtain ⟨s5, dr5, rfl⟩ := dr4.app (by rw [dr3.len]; exact hl)
    have dr5 := dr3.trans dr5
    have hk' : k < (bs.map PyData.str).length := by omega
    have hkb : k < bs.length := by rw [List.length_map] at hk'; exact hk'
    simp only [den_cons, den_nil, denS, denE, denA, denO, denL, denI, denT, denTs, denC, go_bind, go_pure, go_bad, bindR_ok, bindR_bad, bindR_bindR, bindR_ite, go_ite, go_ofS, go_rdD, go_fzD, go_asB, go_asI, go_slot, slot_s, go_slotF, slotF_s, go_noX, noR_ok, noR_ite, go_opD, go_cmpB, go_cmp, go_isi, go_neg, go_rdL_nil, go_rdL_cons, go_fzL_nil, go_fzL_cons, go_bi1, go_bi2, go_slc, go_tup, go_disp, go_fz, go_seqL, go_seqT, go_enumL, go_enumT, go_zipTT, go_zipLL, go_zipTL, go_zipLT, Nat.sub_self, go_sclS, go_scsS, go_listT, go_listL, go_new, gc_d, gc_ite, take_len, take_app, go_newDc, chkDc_s, modDc_s, go_keyS, go_keyI, go_starT, go_starL, List.set_cons_zero, List.set_cons_succ, List.map_cons, List.map_nil, List.cons_append, List.nil_append, List.replicate_succ, List.replicate_zero, List.length_cons, List.length_nil, Tgs.len, wipeR, List.getD_cons_zero, List.getD_cons_succ, modL_s, go_pop _ (dr5.two_1 _ _) hk' (by rw [List.length_map]; omega), dr5.two_s1, go_mod _ _ (dr5.two_0 _ _), app_ok _ (show (as.map PyData.str).length < SZ by rw [List.length_map]; unfold SZ; omega), dr5.two_s0]
    refine ⟨s5, as ++ [bs[k]], bs.eraseIdx k, _, dr5, ?_, rfl, (perm_move hkb).trans pm, by rw [List.length_append, List.length_singleton]; omega⟩
    rw [List.map_append, erase_map]
    simp
  case hd =>
    rintro ρ s' ⟨s3, as, bs, x4, dr3, rfl, rfl, pm, e⟩
    rw [List.length_nil, Nat.add_zero] at e
    have nd : (as ++ bs).Nodup := pm.nodup_iff.mpr (lt_nodup hn3)
    have nda : as.Nodup := (List.nodup_append.mp nd).1
    have sub : ∀ x ∈ as, x ∈ ns := fun x hx => pm.mem_iff.mp (List.mem_append_left _ hx)
    have la : as.length ≤ 9 := Nat.le_trans (nodup_le nda sub) hn2
    dsimp only
    refine rw_bind ((simple_2 ((dr3.at hl).app _) hn1 (dr3.two_0 _ _) nda sub (by omega) la _ _ _ _ n).mono ?_)
    rintro ⟨fl, ρ⟩ s4 ⟨⟨t, rfl, ht⟩, dr4⟩
    obtain ⟨s5, dr5, rfl⟩ := dr4.app (by rw [dr3.len]; exact hl)
    have dr5 := dr3.trans dr5
    exact ⟨⟨t, rfl, ht⟩, by rw [dr5.app_take]; exact dr5⟩
theorem up_neg (l : List Int) : upI (l.map fun x => 0 - x) = (dnI l).map fun x => 0 - x := by
  refine List.Perm.eq_of_pairwise (le := fun a b : Int => a ≤ b) (fun a b _ _ h1 h2 => Int.le_antisymm h1 h2) (up_pw _) ?_ ((up_perm _).trans ((dn_perm l).symm.map _))
  rw [List.pairwise_map]
  exact (dn_pw l).imp fun {a b} h => by omega
theorem neg_sum : ∀ l : List Int, (l.map fun x => 0 - x).sum = 0 - l.sum
  | [] => rfl
  | x :: l => by rw [List.map_cons, List.sum_cons, List.sum_cons, neg_sum l]; omega
theorem u_value {ns : List Str} {kvs : List (PyData × PyData)} {f : Str → Int} : ∀ (lv : Nat) (t : Tr), t.Ok ns lv → ns.length ≤ 9 → (∀ x ∈ t.works, getKey (.str x) kvs = some (.int (f x))) → ∀ (n : Nat) (st : Sto), go (run tab (n + lv) F__law_value [.d t.d, .d (.dict kvs)]) st = .ok (.d (.int (t.val f))) st
  | 0, t, h, _, _, n, st => absurd h.pos (by decide)
  | lv + 1, t, h, hn, hf, n, st => by
    show go (run tab (n + lv + 1) _ _) st = _
    rw [go_run _ T__law_value (n + lv) _ _ ⟨rfl, by decide⟩, go_body]
    unfold D__law_value B__law_value
    cases t with
    | work x =>
      rw [d_work, Tr.val]
      simp only [den_cons, den_nil, denS, denE, denA, denO, denL, denI, denT, denTs, denC, go_bind, go_pure, go_bad, bindR_ok, bindR_bad, bindR_bindR, bindR_ite, go_ite, go_ofS, go_rdD, go_fzD, go_asB, go_asI, go_slot, slot_s, go_slotF, slotF_s, go_noX, noR_ok, noR_ite, go_opD, go_cmpB, go_cmp, go_isi, go_neg, go_rdL_nil, go_rdL_cons, go_fzL_nil, go_fzL_cons, go_bi1, go_bi2, go_slc, go_tup, go_disp, go_fz, go_seqL, go_seqT, go_enumL, go_enumT, go_zipTT, go_zipLL, go_zipTL, go_zipLT, Nat.sub_self, go_sclS, go_scsS, go_listT, go_listL, go_new, gc_d, gc_ite, take_len, take_app, go_newDc, chkDc_s, modDc_s, go_keyS, go_keyI, go_starT, go_starL, List.set_cons_zero, List.set_cons_succ, List.map_cons, List.map_nil, List.cons_append, List.nil_append, List.replicate_succ, List.replicate_zero, List.length_cons, List.length_nil, Tgs.len, wipeR, List.getD_cons_zero, List.getD_cons_succ, idx_0, idx_1, h_ww, if_true, idx_dict, hf x (by simp [Tr.works])]
    | pick b k xs =>
      obtain ⟨h1, h2, h3, h4, h5⟩ := h
      have hl : xs.length ≤ 9 := Nat.le_trans (nodup_le (lt_nodup h2) h3) hn
      rw [d_pick, Tr.val]
      simp only [den_cons, den_nil, denS, denE, denA, denO, denL, denI, denT, denTs, denC, go_bind, go_pure, go_bad, bindR_ok, bindR_bad, bindR_bindR, bindR_ite, go_ite, go_ofS, go_rdD, go_fzD, go_asB, go_asI, go_slot, slot_s, go_slotF, slotF_s, go_noX, noR_ok, noR_ite, go_opD, go_cmpB, go_cmp, go_isi, go_neg, go_rdL_nil, go_rdL_cons, go_fzL_nil, go_fzL_cons, go_bi1, go_bi2, go_slc, go_tup, go_disp, go_fz, go_seqL, go_seqT, go_enumL, go_enumT, go_zipTT, go_zipLL, go_zipTL, go_zipLT, Nat.sub_self, go_sclS, go_scsS, go_listT, go_listL, go_new, gc_d, gc_ite, take_len, take_app, go_newDc, chkDc_s, modDc_s, go_keyS, go_keyI, go_starT, go_starL, List.set_cons_zero, List.set_cons_succ, List.map_cons, List.map_nil, List.cons_append, List.nil_append, List.replicate_succ, List.replicate_zero, List.length_cons, List.length_nil, Tgs.len, wipeR, List.getD_cons_zero, List.getD_cons_succ, idx_0, idx_1, idx_2, h_pw, h_ps, h_pb, Bool.false_eq_true, if_false]
      rw [go_comp_of (fun x : Str => .str x) (fun x => .int (0 - f x)) xs ?h ?l]
      case h =>
        intro x hx
        simp only [den_cons, den_nil, denS, denE, denA, denO, denL, denI, denT, denTs, denC, go_bind, go_pure, go_bad, bindR_ok, bindR_bad, bindR_bindR, bindR_ite, go_ite, go_ofS, go_rdD, go_fzD, go_asB, go_asI, go_slot, slot_s, go_slotF, slotF_s, go_noX, noR_ok, noR_ite, go_opD, go_cmpB, go_cmp, go_isi, go_neg, go_rdL_nil, go_rdL_cons, go_fzL_nil, go_fzL_cons, go_bi1, go_bi2, go_slc, go_tup, go_disp, go_fz, go_seqL, go_seqT, go_enumL, go_enumT, go_zipTT, go_zipLL, go_zipTL, go_zipLT, Nat.sub_self, go_sclS, go_scsS, go_listT, go_listL, go_new, gc_d, gc_ite, take_len, take_app, go_newDc, chkDc_s, modDc_s, go_keyS, go_keyI, go_starT, go_starL, List.set_cons_zero, List.set_cons_succ, List.map_cons, List.map_nil, List.cons_append, List.nil_append, List.replicate_succ, List.replicate_zero, List.length_cons, List.length_nil, Tgs.len, wipeR, List.getD_cons_zero, List.getD_cons_succ, idx_dict, hf x (by rw [Tr.works]; exact hx), sub_i, if_true]
      case l => unfold SZ; omega
      have e : (xs.map fun x => PyData.int (0 - f x)) = ((xs.map f).map fun x => 0 - x).map .int := by rw [List.map_map, List.map_map]; rfl
      have sb : binD .sub (.int (k : Int)) (.int 1) = some (.int ((k - 1 : Nat) : Int)) := sub_n (j := 1) h4
      have hk : k - 1 < (dnI (xs.map f)).length := by rw [dn_len, List.length_map]; omega
      have pr : idxD (.list (((dnI (xs.map f)).map fun x => 0 - x).map .int)) (.int ((k - 1 : Nat) : Int)) = some (.int (0 - pickV false k (dnI (xs.map f)))) := by
        refine idxL_at _ _ ?_
        rw [List.getElem?_map, List.getElem?_map, List.getElem?_eq_getElem hk]
        simp only [Option.map_some, pickV, List.getD_eq_getElem?_getD, Bool.false_eq_true, if_false]
        rw [List.getElem?_eq_getElem hk]
        rfl
      have es : biD .sum [.list ((((dnI (xs.map f)).take k).map fun x => 0 - x).map .int)] = some (.int (0 - pickV true k (dnI (xs.map f)))) := by
        rw [sum_intL, neg_sum]; rfl
      simp only [den_cons, den_nil, denS, denE, denA, denO, denL, denI, denT, denTs, denC, go_bind, go_pure, go_bad, bindR_ok, bindR_bad, bindR_bindR, bindR_ite, go_ite, go_ofS, go_rdD, go_fzD, go_asB, go_asI, go_slot, slot_s, go_slotF, slotF_s, go_noX, noR_ok, noR_ite, go_opD, go_cmpB, go_cmp, go_isi, go_neg, go_rdL_nil, go_rdL_cons, go_fzL_nil, go_fzL_cons, go_bi1, go_bi2, go_slc, go_tup, go_disp, go_fz, go_seqL, go_seqT, go_enumL, go_enumT, go_zipTT, go_zipLL, go_zipTL, go_zipLT, Nat.sub_self, go_sclS, go_scsS, go_listT, go_listL, go_new, gc_d, gc_ite, take_len, take_app, go_newDc, chkDc_s, modDc_s, go_keyS, go_keyI, go_starT, go_starL, List.set_cons_zero, List.set_cons_succ, List.map_cons, List.map_nil, List.cons_append, List.nil_append, List.replicate_succ, List.replicate_zero, List.length_cons, List.length_nil, Tgs.len, wipeR, List.getD_cons_zero, List.getD_cons_succ, bindR_ok, e, go_sortL (rev := false) (okSort_ints (l := (xs.map f).map fun x => 0 - x) (by rw [List.length_map, List.length_map]; unfold SZ; omega)), sort_up, up_neg, slc_hiL, ← List.map_take, sb, pr]
      cases b
      · simp only [Bool.false_eq_true, if_false, den_cons, den_nil, denS, denE, denA, denO, denL, denI, denT, denTs, denC, go_bind, go_pure, go_bad, bindR_ok, bindR_bad, bindR_bindR, bindR_ite, go_ite, go_ofS, go_rdD, go_fzD, go_asB, go_asI, go_slot, slot_s, go_slotF, slotF_s, go_noX, noR_ok, noR_ite, go_opD, go_cmpB, go_cmp, go_isi, go_neg, go_rdL_nil, go_rdL_cons, go_fzL_nil, go_fzL_cons, go_bi1, go_bi2, go_slc, go_tup, go_disp, go_fz, go_seqL, go_seqT, go_enumL, go_enumT, go_zipTT, go_zipLL, go_zipTL, go_zipLT, Nat.sub_self, go_sclS, go_scsS, go_listT, go_listL, go_new, gc_d, gc_ite, take_len, take_app, go_newDc, chkDc_s, modDc_s, go_keyS, go_keyI, go_starT, go_starL, List.set_cons_zero, List.set_cons_succ, List.map_cons, List.map_nil, List.cons_append, List.nil_append, List.replicate_succ, List.replicate_zero, List.length_cons, List.length_nil, Tgs.len, wipeR, List.getD_cons_zero, List.getD_cons_succ, sub_i]
        congr 3
        omega
      · simp only [if_true, den_cons, den_nil, denS, denE, denA, denO, denL, denI, denT, denTs, denC, go_bind, go_pure, go_bad, bindR_ok, bindR_bad, bindR_bindR, bindR_ite, go_ite, go_ofS, go_rdD, go_fzD, go_asB, go_asI, go_slot, slot_s, go_slotF, slotF_s, go_noX, noR_ok, noR_ite, go_opD, go_cmpB, go_cmp, go_isi, go_neg, go_rdL_nil, go_rdL_cons, go_fzL_nil, go_fzL_cons, go_bi1, go_bi2, go_slc, go_tup, go_disp, go_fz, go_seqL, go_seqT, go_enumL, go_enumT, go_zipTT, go_zipLL, go_zipTL, go_zipLT, Nat.sub_self, go_sclS, go_scsS, go_listT, go_listL, go_new, gc_d, gc_ite, take_len, take_app, go_newDc, chkDc_s, modDc_s, go_keyS, go_keyI, go_starT, go_starL, List.set_cons_zero, List.set_cons_succ, List.map_cons, List.map_nil, List.cons_append, List.nil_append, List.replicate_succ, List.replicate_zero, List.length_cons, List.length_nil, Tgs.len, wipeR, List.getD_cons_zero, List.getD_cons_succ, es, sub_i]
        congr 3
        omega
    | sum ts =>
      rw [d_sum, Tr.val, Ts.val_l]
      simp only [den_cons, den_nil, denS, denE, denA, denO, denL, denI, denT, denTs, denC, go_bind, go_pure, go_bad, bindR_ok, bindR_bad, bindR_bindR, bindR_ite, go_ite, go_ofS, go_rdD, go_fzD, go_asB, go_asI, go_slot, slot_s, go_slotF, slotF_s, go_noX, noR_ok, noR_ite, go_opD, go_cmpB, go_cmp, go_isi, go_neg, go_rdL_nil, go_rdL_cons, go_fzL_nil, go_fzL_cons, go_bi1, go_bi2, go_slc, go_tup, go_disp, go_fz, go_seqL, go_seqT, go_enumL, go_enumT, go_zipTT, go_zipLL, go_zipTL, go_zipLT, Nat.sub_self, go_sclS, go_scsS, go_listT, go_listL, go_new, gc_d, gc_ite, take_len, take_app, go_newDc, chkDc_s, modDc_s, go_keyS, go_keyI, go_starT, go_starL, List.set_cons_zero, List.set_cons_succ, List.map_cons, List.map_nil, List.cons_append, List.nil_append, List.replicate_succ, List.replicate_zero, List.length_cons, List.length_nil, Tgs.len, wipeR, List.getD_cons_zero, List.getD_cons_succ, idx_0, idx_1, h_sw, h_ss, Bool.false_eq_true, if_false, if_true]
      rw [go_comp_of tmD (fun p => .int (p.1 * p.2.val f)) ts.l ?h ?l]
      case h =>
        intro p hp
        obtain ⟨q1, q2⟩ := (Ts.ok_l ts).mp h.2.2.2 p hp
        have q2 : p.2.Ok ns lv := q2
        have sm : binD .mul (.int p.1) (.int (p.2.val f)) = some (.int (p.1 * p.2.val f)) := by
          obtain ⟨w1, w2, _⟩ := q1
          exact mul_l (sm_of (by omega) (by omega)) _
        unfold tmD
        simp only [den_cons, den_nil, denS, denE, denA, denO, denL, denI, denT, denTs, denC, go_bind, go_pure, go_bad, bindR_ok, bindR_bad, bindR_bindR, bindR_ite, go_ite, go_ofS, go_rdD, go_fzD, go_asB, go_asI, go_slot, slot_s, go_slotF, slotF_s, go_noX, noR_ok, noR_ite, go_opD, go_cmpB, go_cmp, go_isi, go_neg, go_rdL_nil, go_rdL_cons, go_fzL_nil, go_fzL_cons, go_bi1, go_bi2, go_slc, go_tup, go_disp, go_fz, go_seqL, go_seqT, go_enumL, go_enumT, go_zipTT, go_zipLL, go_zipTL, go_zipLT, Nat.sub_self, go_sclS, go_scsS, go_listT, go_listL, go_new, gc_d, gc_ite, take_len, take_app, go_newDc, chkDc_s, modDc_s, go_keyS, go_keyI, go_starT, go_starL, List.set_cons_zero, List.set_cons_succ, List.map_cons, List.map_nil, List.cons_append, List.nil_append, List.replicate_succ, List.replicate_zero, List.length_cons, List.length_nil, Tgs.len, wipeR, List.getD_cons_zero, List.getD_cons_succ, u_value lv p.2 q2 hn (fun x hx => hf x (by rw [Tr.works, Ts.works_l, List.mem_flatMap]; exact ⟨p, hp, hx⟩)), sm, if_true]
      case l => have := h.2.2.1; unfold SZ; omega
      simp only [den_cons, den_nil, denS, denE, denA, denO, denL, denI, denT, denTs, denC, go_bind, go_pure, go_bad, bindR_ok, bindR_bad, bindR_bindR, bindR_ite, go_ite, go_ofS, go_rdD, go_fzD, go_asB, go_asI, go_slot, slot_s, go_slotF, slotF_s, go_noX, noR_ok, noR_ite, go_opD, go_cmpB, go_cmp, go_isi, go_neg, go_rdL_nil, go_rdL_cons, go_fzL_nil, go_fzL_cons, go_bi1, go_bi2, go_slc, go_tup, go_disp, go_fz, go_seqL, go_seqT, go_enumL, go_enumT, go_zipTT, go_zipLL, go_zipTL, go_zipLT, Nat.sub_self, go_sclS, go_scsS, go_listT, go_listL, go_new, gc_d, gc_ite, take_len, take_app, go_newDc, chkDc_s, modDc_s, go_keyS, go_keyI, go_starT, go_starL, List.set_cons_zero, List.set_cons_succ, List.map_cons, List.map_nil, List.cons_append, List.nil_append, List.replicate_succ, List.replicate_zero, List.length_cons, List.length_nil, Tgs.len, wipeR, List.getD_cons_zero, List.getD_cons_succ, sum_ints (fun p : Int × Tr => p.1 * p.2.val f)]
end Gk
namespace Gk
open PySem PySem.Spec L2 Gd
theorem u_lowest (a b : Int) (h1 : 1 ≤ b) (h2 : b ≤ 1000000) (n : Nat) (st : Sto) : go (run tab (n + 1) F__law_lowest [.d (.int a), .d (.int b)]) st = .ok (.d (frD a b)) st := by
  rw [go_run _ T__law_lowest n _ _ ⟨rfl, by decide⟩, go_body]
  unfold D__law_lowest B__law_lowest
  have g1 : 0 < Nat.gcd a.natAbs b.natAbs := Nat.gcd_pos_of_pos_right _ (by omega)
  have g2 : Nat.gcd a.natAbs b.natAbs ≤ b.natAbs := Nat.gcd_le_right _ (by omega)
  have q : ∀ x : Int, binD .fdiv (.int x) (.int (Nat.gcd a.natAbs b.natAbs : Nat)) = some (.int (x.fdiv (Nat.gcd a.natAbs b.natAbs : Nat))) := fun x => fdiv_i x (by omega)
  have eb : ((b.natAbs : Nat) : Int) = b := by omega
  have r4 : ∀ s, go (rng1M (.d (.int 400))) s = .ok ((List.range 400).map fun i : Nat => .int (i : Int)) s := fun s => go_rngN (k := 400) (by decide) s
  have cgt : ∀ i j : Int, cmpD .gt (.int i) (.int j) = some (decide (j < i)) := fun _ _ => rfl
  simp only [den_cons, den_nil, denS, denE, denA, denO, denL, denI, denT, denTs, denC, go_bind, go_pure, go_bad, bindR_ok, bindR_bad, bindR_bindR, bindR_ite, go_ite, go_ofS, go_rdD, go_fzD, go_asB, go_asI, go_slot, slot_s, go_slotF, slotF_s, go_noX, noR_ok, noR_ite, go_opD, go_cmpB, go_cmp, go_isi, go_neg, go_rdL_nil, go_rdL_cons, go_fzL_nil, go_fzL_cons, go_bi1, go_bi2, go_slc, go_tup, go_disp, go_fz, go_seqL, go_seqT, go_enumL, go_enumT, go_zipTT, go_zipLL, go_zipTL, go_zipLT, Nat.sub_self, go_sclS, go_scsS, go_listT, go_listL, go_new, gc_d, gc_ite, take_len, take_app, go_newDc, chkDc_s, modDc_s, go_keyS, go_keyI, go_starT, go_starL, List.set_cons_zero, List.set_cons_succ, List.map_cons, List.map_nil, List.cons_append, List.nil_append, List.replicate_succ, List.replicate_zero, List.length_cons, List.length_nil, Tgs.len, wipeR, List.getD_cons_zero, List.getD_cons_succ, abs_nat, r4]
  refine rw_to_eq (rw_gc (rw_bind (rw_forT (fun i : Nat => .int (i : Int)) (fun rem ρ s => ∃ (u v : Nat) (x : Option W), ρ = [some (.d (.int a)), some (.d (.int b)), some (.d (.int (u : Int))), some (.d (.int (v : Int))), x] ∧ s = st ∧ Nat.gcd u v = Nat.gcd a.natAbs b.natAbs ∧ (if rem.length % 2 = 0 then v < 2 ^ (rem.length / 2) else (v = 0 ∨ u % v < 2 ^ (rem.length / 2)))) _ _ _ ?h0 ?hs ?hd)))
  case h0 =>
    refine ⟨a.natAbs, b.natAbs, none, by rw [eb], rfl, rfl, ?_⟩
    rw [List.length_range, if_pos (by decide)]
    have : (2 : Nat) ^ 20 ≤ 2 ^ (400 / 2) := Nat.pow_le_pow_right (by decide) (by decide)
    have e : (2 : Nat) ^ 20 = 1048576 := by decide
    omega
  case hs =>
    rintro i r ρ s hi ⟨u, v, x, rfl, rfl, eg, pot⟩
    rw [List.length_cons] at pot
    by_cases z : 0 < v
    · have cz : decide ((0 : Int) < (v : Int)) = true := decide_eq_true (by omega)
      have md : binD .mod (.int (u : Int)) (.int (v : Int)) = some (.int ((u % v : Nat) : Int)) := by
        rw [mod_i _ (by omega), Int.ofNat_fmod]
      simp only [den_cons, den_nil, denS, denE, denA, denO, denL, denI, denT, denTs, denC, go_bind, go_pure, go_bad, bindR_ok, bindR_bad, bindR_bindR, bindR_ite, go_ite, go_ofS, go_rdD, go_fzD, go_asB, go_asI, go_slot, slot_s, go_slotF, slotF_s, go_noX, noR_ok, noR_ite, go_opD, go_cmpB, go_cmp, go_isi, go_neg, go_rdL_nil, go_rdL_cons, go_fzL_nil, go_fzL_cons, go_bi1, go_bi2, go_slc, go_tup, go_disp, go_fz, go_seqL, go_seqT, go_enumL, go_enumT, go_zipTT, go_zipLL, go_zipTL, go_zipLT, Nat.sub_self, go_sclS, go_scsS, go_listT, go_listL, go_new, gc_d, gc_ite, take_len, take_app, go_newDc, chkDc_s, modDc_s, go_keyS, go_keyI, go_starT, go_starL, List.set_cons_zero, List.set_cons_succ, List.map_cons, List.map_nil, List.cons_append, List.nil_append, List.replicate_succ, List.replicate_zero, List.length_cons, List.length_nil, Tgs.len, wipeR, List.getD_cons_zero, List.getD_cons_succ, cgt, cz, if_true, int_i, md, show (0 + 1 + 1 : Nat) ≤ SZ by decide]
      refine ⟨v, u % v, _, rfl, rfl, by rw [← eg, Nat.gcd_comm u v, Nat.gcd_rec v u, Nat.gcd_comm], ?_⟩
      by_cases ev : (r.length + 1) % 2 = 0
      · rw [if_pos ev] at pot
        rw [if_neg (by omega)]
        by_cases r0 : u % v = 0
        · exact .inl r0
        · refine .inr ?_
          have hr : 0 < u % v := by omega
          have a1 := Nat.mod_lt u z
          have a2 := Nat.mod_lt v hr
          have a3 := Nat.mod_add_div v (u % v)
          have a4 : 1 ≤ v / (u % v) := Nat.div_pos (by omega) hr
          have a5 := Nat.mul_le_mul_left (u % v) a4
          obtain ⟨k, hk⟩ : ∃ k, (r.length + 1) / 2 = k + 1 := ⟨(r.length + 1) / 2 - 1, by omega⟩
          rw [hk, Nat.pow_succ] at pot
          have : r.length / 2 = k := by omega
          rw [this]
          omega
      · rw [if_neg ev] at pot
        rw [if_pos (by omega)]
        have : (r.length + 1) / 2 = r.length / 2 := by omega
        rw [this] at pot
        rcases pot with p | p
        · omega
        · exact p
    · have v0 : v = 0 := by omega
      subst v0
      have cz : decide ((0 : Int) < ((0 : Nat) : Int)) = false := by decide
      simp only [den_cons, den_nil, denS, denE, denA, denO, denL, denI, denT, denTs, denC, go_bind, go_pure, go_bad, bindR_ok, bindR_bad, bindR_bindR, bindR_ite, go_ite, go_ofS, go_rdD, go_fzD, go_asB, go_asI, go_slot, slot_s, go_slotF, slotF_s, go_noX, noR_ok, noR_ite, go_opD, go_cmpB, go_cmp, go_isi, go_neg, go_rdL_nil, go_rdL_cons, go_fzL_nil, go_fzL_cons, go_bi1, go_bi2, go_slc, go_tup, go_disp, go_fz, go_seqL, go_seqT, go_enumL, go_enumT, go_zipTT, go_zipLL, go_zipTL, go_zipLT, Nat.sub_self, go_sclS, go_scsS, go_listT, go_listL, go_new, gc_d, gc_ite, take_len, take_app, go_newDc, chkDc_s, modDc_s, go_keyS, go_keyI, go_starT, go_starL, List.set_cons_zero, List.set_cons_succ, List.map_cons, List.map_nil, List.cons_append, List.nil_append, List.replicate_succ, List.replicate_zero, List.length_cons, List.length_nil, Tgs.len, wipeR, List.getD_cons_zero, List.getD_cons_succ, cgt, cz, Bool.false_eq_true, if_false, if_true, show (0 + 1 + 1 : Nat) ≤ SZ by decide]
      refine ⟨u, 0, _, rfl, rfl, eg, ?_⟩
      split
      · exact Nat.pow_pos (by decide)
      · exact .inl rfl
  case hd =>
    rintro ρ s ⟨u, v, x, rfl, rfl, eg, pot⟩
    rw [List.length_nil, if_pos (by decide)] at pot
    have v0 : v = 0 := by
      have : (2 : Nat) ^ (0 / 2) = 1 := by decide
      omega
    subst v0
    rw [Nat.gcd_zero_right] at eg
    subst eg
    simp only [den_cons, den_nil, denS, denE, denA, denO, denL, denI, denT, denTs, denC, go_bind, go_pure, go_bad, bindR_ok, bindR_bad, bindR_bindR, bindR_ite, go_ite, go_ofS, go_rdD, go_fzD, go_asB, go_asI, go_slot, slot_s, go_slotF, slotF_s, go_noX, noR_ok, noR_ite, go_opD, go_cmpB, go_cmp, go_isi, go_neg, go_rdL_nil, go_rdL_cons, go_fzL_nil, go_fzL_cons, go_bi1, go_bi2, go_slc, go_tup, go_disp, go_fz, go_seqL, go_seqT, go_enumL, go_enumT, go_zipTT, go_zipLL, go_zipTL, go_zipLT, Nat.sub_self, go_sclS, go_scsS, go_listT, go_listL, go_new, gc_d, gc_ite, take_len, take_app, go_newDc, chkDc_s, modDc_s, go_keyS, go_keyI, go_starT, go_starL, List.set_cons_zero, List.set_cons_succ, List.map_cons, List.map_nil, List.cons_append, List.nil_append, List.replicate_succ, List.replicate_zero, List.length_cons, List.length_nil, Tgs.len, wipeR, List.getD_cons_zero, List.getD_cons_succ, q, show (0 + 1 + 1 : Nat) ≤ SZ by decide, if_true]
    exact ⟨rfl, take_len _⟩
end Gk
namespace Gk
open PySem PySem.Spec L2 Gd
def Wts (ws : List Int) : Prop := ws ≠ [] ∧ ws.length ≤ 1000 ∧ ∀ w ∈ ws, Wt w
theorem u_weight {l : Nat} {s : Sto} (h : Wat l s) {ws : List Int} (hw : Wts ws) (n : Nat) : RWp (go (run tab (n + 2) F__law_of [.r l, .d (.list (ws.map .int))]) s) fun w s' => (∃ v : Int, w = .d (.int v) ∧ Wt v) ∧ Drw l s s' := by
  refine (u_ofL h (xs := ws.map .int) (by simpa using hw.1) (by rw [List.length_map]; exact hw.2.1) n).mono ?_
  rintro w s' ⟨⟨d, hd, rfl⟩, dr⟩
  obtain ⟨v, hv, rfl⟩ := List.mem_map.mp hd
  exact ⟨⟨v, rfl, hw.2.2 v hv⟩, dr⟩
theorem rule_3 {l m : Nat} {s : Sto} (h : Wat l s) {ns : List Str} (hn : NmsU ns) {ws : List Int} (hw : Wts ws) (hm : l ≠ m) {xs : List PyData} (g : s[m]? = some (.lst xs)) (hx : xs.length ≤ 1000) (x2 x4 x5 x6 x8 : Option W) (n : Nat) :
    RWp (go (denSs (run tab (n + 3)) B__law_rule_4 [some (.r l), some (.d (.list (ns.map .str))), x2, some (.d (.list (ws.map .int))), x4, x5, x6, some (.r m), x8]) s) fun p s' => p = (.nx, [some (.r l), some (.d (.list (ns.map .str))), x2, some (.d (.list (ws.map .int))), x4, x5, x6, some (.r m), x8]) ∧ ∃ (q : Int × Tr) (s1 : Sto), Wt q.1 ∧ Lf1 ns q.2 ∧ Drw l s s1 ∧ s' = s1.set m (.lst (xs ++ [tmD q])) := by
  unfold B__law_rule_4
  have hl := h.lt
  simp only [den_cons, den_nil, denS, denE, denA, denO, denL, denI, denT, denTs, denC, go_bind, go_pure, go_bad, bindR_ok, bindR_bad, bindR_bindR, bindR_ite, go_ite, go_ofS, go_rdD, go_fzD, go_asB, go_asI, go_slot, slot_s, go_slotF, slotF_s, go_noX, noR_ok, noR_ite, go_opD, go_cmpB, go_cmp, go_isi, go_neg, go_rdL_nil, go_rdL_cons, go_fzL_nil, go_fzL_cons, go_bi1, go_bi2, go_slc, go_tup, go_disp, go_fz, go_seqL, go_seqT, go_enumL, go_enumT, go_zipTT, go_zipLL, go_zipTL, go_zipLT, Nat.sub_self, go_sclS, go_scsS, go_listT, go_listL, go_new, gc_d, gc_ite, take_len, take_app, go_newDc, chkDc_s, modDc_s, go_keyS, go_keyI, go_starT, go_starL, List.set_cons_zero, List.set_cons_succ, List.map_cons, List.map_nil, List.cons_append, List.nil_append, List.replicate_succ, List.replicate_zero, List.length_cons, List.length_nil, Tgs.len, wipeR, List.getD_cons_zero, List.getD_cons_succ, chkL_s, go_chk _ g]
  refine rw_bind ((u_weight h hw (n + 1)).mono ?_)
  rintro w s1 ⟨⟨v, rfl, hv⟩, dr1⟩
  refine rw_bind ((u_simple (dr1.at hl) hn n).mono ?_)
  rintro w s2 ⟨⟨t, rfl, ht⟩, dr2⟩
  have dr2 := dr1.trans dr2
  have g2 : s2[m]? = some (.lst xs) := by rw [dr2.keep hm]; exact g
  simp only [den_cons, den_nil, denS, denE, denA, denO, denL, denI, denT, denTs, denC, go_bind, go_pure, go_bad, bindR_ok, bindR_bad, bindR_bindR, bindR_ite, go_ite, go_ofS, go_rdD, go_fzD, go_asB, go_asI, go_slot, slot_s, go_slotF, slotF_s, go_noX, noR_ok, noR_ite, go_opD, go_cmpB, go_cmp, go_isi, go_neg, go_rdL_nil, go_rdL_cons, go_fzL_nil, go_fzL_cons, go_bi1, go_bi2, go_slc, go_tup, go_disp, go_fz, go_seqL, go_seqT, go_enumL, go_enumT, go_zipTT, go_zipLL, go_zipTL, go_zipLT, Nat.sub_self, go_sclS, go_scsS, go_listT, go_listL, go_new, gc_d, gc_ite, take_len, take_app, go_newDc, chkDc_s, modDc_s, go_keyS, go_keyI, go_starT, go_starL, List.set_cons_zero, List.set_cons_succ, List.map_cons, List.map_nil, List.cons_append, List.nil_append, List.replicate_succ, List.replicate_zero, List.length_cons, List.length_nil, Tgs.len, wipeR, List.getD_cons_zero, List.getD_cons_succ, show (0 + 1 + 1 : Nat) ≤ SZ by decide, if_true, modL_s, go_mod _ _ g2, app_ok _ (show xs.length < SZ by unfold SZ; omega)]
  exact ⟨rfl, (v, t), s2, hv, ht, dr2, rfl⟩
def Lf2 (ns : List Str) (t : Tr) : Prop := (∀ lv, 2 ≤ lv → t.Ok ns lv) ∧ t.nodes ≤ 3
theorem rule_4 {l m m2 : Nat} {s : Sto} (h : Wat l s) {ns : List Str} (hn : NmsU ns) {ws : List Int} (hw : Wts ws) (hm : l ≠ m) (hm2 : l ≠ m2) {xs : List PyData} (g : s[m]? = some (.lst xs)) (hx : xs.length ≤ 1000) {ps : List (Int × Tr)} (g2 : s[m2]? = some (.lst (ps.map tmD))) (hp : ∀ p ∈ ps, Wt p.1 ∧ Lf1 ns p.2) (hpl : ps.length ≤ 2) (x2 x5 x6 x8 : Option W) (n : Nat) :
    RWp (go (denSs (run tab (n + 3)) B__law_rule_5 [some (.r l), some (.d (.list (ns.map .str))), x2, some (.d (.list (ws.map .int))), some (.r m), x5, x6, some (.r m2), x8]) s) fun p s' => p = (.nx, [some (.r l), some (.d (.list (ns.map .str))), x2, some (.d (.list (ws.map .int))), some (.r m), x5, x6, some (.r m2), x8]) ∧ ∃ (q : Int × Tr) (s1 : Sto), Wt q.1 ∧ Lf2 ns q.2 ∧ Drw l s s1 ∧ s' = s1.set m (.lst (xs ++ [tmD q])) := by
  unfold B__law_rule_5
  have hl := h.lt
  simp only [den_cons, den_nil, denS, denE, denA, denO, denL, denI, denT, denTs, denC, go_bind, go_pure, go_bad, bindR_ok, bindR_bad, bindR_bindR, bindR_ite, go_ite, go_ofS, go_rdD, go_fzD, go_asB, go_asI, go_slot, slot_s, go_slotF, slotF_s, go_noX, noR_ok, noR_ite, go_opD, go_cmpB, go_cmp, go_isi, go_neg, go_rdL_nil, go_rdL_cons, go_fzL_nil, go_fzL_cons, go_bi1, go_bi2, go_slc, go_tup, go_disp, go_fz, go_seqL, go_seqT, go_enumL, go_enumT, go_zipTT, go_zipLL, go_zipTL, go_zipLT, Nat.sub_self, go_sclS, go_scsS, go_listT, go_listL, go_new, gc_d, gc_ite, take_len, take_app, go_newDc, chkDc_s, modDc_s, go_keyS, go_keyI, go_starT, go_starL, List.set_cons_zero, List.set_cons_succ, List.map_cons, List.map_nil, List.cons_append, List.nil_append, List.replicate_succ, List.replicate_zero, List.length_cons, List.length_nil, Tgs.len, wipeR, List.getD_cons_zero, List.getD_cons_succ, chkL_s, go_chk _ g]
  refine rw_bind ((u_weight h hw (n + 1)).mono ?_)
  rintro w s1 ⟨⟨v, rfl, hv⟩, dr1⟩
  have g21 : s1[m2]? = some (.lst (ps.map tmD)) := by rw [dr1.keep hm2]; exact g2
  have cn : cmpD .ne (.list (ps.map tmD)) (.list []) = some (!decide (ps = [])) := by
    rw [cmp_neL (m := 4) (fun x hx => ?_) (by decide)]
    · congr 2
      rw [Bool.eq_iff_iff]; simp
    · obtain ⟨p, hp', rfl⟩ := List.mem_map.mp hx
      exact tm_shp hn.1.1 ((hp p hp').2.1 1 (Nat.le_refl 1))
  simp only [den_cons, den_nil, denS, denE, denA, denO, denL, denI, denT, denTs, denC, go_bind, go_pure, go_bad, bindR_ok, bindR_bad, bindR_bindR, bindR_ite, go_ite, go_ofS, go_rdD, go_fzD, go_asB, go_asI, go_slot, slot_s, go_slotF, slotF_s, go_noX, noR_ok, noR_ite, go_opD, go_cmpB, go_cmp, go_isi, go_neg, go_rdL_nil, go_rdL_cons, go_fzL_nil, go_fzL_cons, go_bi1, go_bi2, go_slc, go_tup, go_disp, go_fz, go_seqL, go_seqT, go_enumL, go_enumT, go_zipTT, go_zipLL, go_zipTL, go_zipLT, Nat.sub_self, go_sclS, go_scsS, go_listT, go_listL, go_new, gc_d, gc_ite, take_len, take_app, go_newDc, chkDc_s, modDc_s, go_keyS, go_keyI, go_starT, go_starL, List.set_cons_zero, List.set_cons_succ, List.map_cons, List.map_nil, List.cons_append, List.nil_append, List.replicate_succ, List.replicate_zero, List.length_cons, List.length_nil, Tgs.len, wipeR, List.getD_cons_zero, List.getD_cons_succ, Nat.zero_le, if_true, go_cmpLt _ g21, cn]
  by_cases z : ps = []
  · simp only [decide_eq_true z, Bool.not_true, Bool.false_eq_true, if_false, den_cons, den_nil, denS, denE, denA, denO, denL, denI, denT, denTs, denC, go_bind, go_pure, go_bad, bindR_ok, bindR_bad, bindR_bindR, bindR_ite, go_ite, go_ofS, go_rdD, go_fzD, go_asB, go_asI, go_slot, slot_s, go_slotF, slotF_s, go_noX, noR_ok, noR_ite, go_opD, go_cmpB, go_cmp, go_isi, go_neg, go_rdL_nil, go_rdL_cons, go_fzL_nil, go_fzL_cons, go_bi1, go_bi2, go_slc, go_tup, go_disp, go_fz, go_seqL, go_seqT, go_enumL, go_enumT, go_zipTT, go_zipLL, go_zipTL, go_zipLT, Nat.sub_self, go_sclS, go_scsS, go_listT, go_listL, go_new, gc_d, gc_ite, take_len, take_app, go_newDc, chkDc_s, modDc_s, go_keyS, go_keyI, go_starT, go_starL, List.set_cons_zero, List.set_cons_succ, List.map_cons, List.map_nil, List.cons_append, List.nil_append, List.replicate_succ, List.replicate_zero, List.length_cons, List.length_nil, Tgs.len, wipeR, List.getD_cons_zero, List.getD_cons_succ]
    refine rw_bind ((u_simple (dr1.at hl) hn n).mono ?_)
    rintro w s2 ⟨⟨t, rfl, ht⟩, dr2⟩
    have dr2 := dr1.trans dr2
    have g3 : s2[m]? = some (.lst xs) := by rw [dr2.keep hm]; exact g
    simp only [den_cons, den_nil, denS, denE, denA, denO, denL, denI, denT, denTs, denC, go_bind, go_pure, go_bad, bindR_ok, bindR_bad, bindR_bindR, bindR_ite, go_ite, go_ofS, go_rdD, go_fzD, go_asB, go_asI, go_slot, slot_s, go_slotF, slotF_s, go_noX, noR_ok, noR_ite, go_opD, go_cmpB, go_cmp, go_isi, go_neg, go_rdL_nil, go_rdL_cons, go_fzL_nil, go_fzL_cons, go_bi1, go_bi2, go_slc, go_tup, go_disp, go_fz, go_seqL, go_seqT, go_enumL, go_enumT, go_zipTT, go_zipLL, go_zipTL, go_zipLT, Nat.sub_self, go_sclS, go_scsS, go_listT, go_listL, go_new, gc_d, gc_ite, take_len, take_app, go_newDc, chkDc_s, modDc_s, go_keyS, go_keyI, go_starT, go_starL, List.set_cons_zero, List.set_cons_succ, List.map_cons, List.map_nil, List.cons_append, List.nil_append, List.replicate_succ, List.replicate_zero, List.length_cons, List.length_nil, Tgs.len, wipeR, List.getD_cons_zero, List.getD_cons_succ, show (0 + 1 + 1 : Nat) ≤ SZ by decide, if_true, modL_s, go_mod _ _ g3, app_ok _ (show xs.length < SZ by unfold SZ; omega)]
    exact ⟨rfl, (v, t), s2, hv, ⟨fun lv hlv => ht.1 lv (by omega), by have := ht.2.1; show t.nodes ≤ 3; omega⟩, dr2, rfl⟩
  · have g3 : s1[m]? = some (.lst xs) := by rw [dr1.keep hm]; exact g
    simp only [decide_eq_false z, Bool.not_false, if_true, den_cons, den_nil, denS, denE, denA, denO, denL, denI, denT, denTs, denC, go_bind, go_pure, go_bad, bindR_ok, bindR_bad, bindR_bindR, bindR_ite, go_ite, go_ofS, go_rdD, go_fzD, go_asB, go_asI, go_slot, slot_s, go_slotF, slotF_s, go_noX, noR_ok, noR_ite, go_opD, go_cmpB, go_cmp, go_isi, go_neg, go_rdL_nil, go_rdL_cons, go_fzL_nil, go_fzL_cons, go_bi1, go_bi2, go_slc, go_tup, go_disp, go_fz, go_seqL, go_seqT, go_enumL, go_enumT, go_zipTT, go_zipLL, go_zipTL, go_zipLT, Nat.sub_self, go_sclS, go_scsS, go_listT, go_listL, go_new, gc_d, gc_ite, take_len, take_app, go_newDc, chkDc_s, modDc_s, go_keyS, go_keyI, go_starT, go_starL, List.set_cons_zero, List.set_cons_succ, List.map_cons, List.map_nil, List.cons_append, List.nil_append, List.replicate_succ, List.replicate_zero, List.length_cons, List.length_nil, Tgs.len, wipeR, List.getD_cons_zero, List.getD_cons_succ, go_biC _ g21, tup_L, show (0 + 1 + 1 : Nat) ≤ SZ by decide, modL_s, go_mod _ _ g3, app_ok _ (show xs.length < SZ by unfold SZ; omega)]
    refine ⟨rfl, (v, .sum (Ts.of ps)), s1, hv, ⟨fun lv hlv => ⟨hlv, ?_, ?_, ?_⟩, ?_⟩, dr1, ?_⟩
    · rw [Ts.of_l]; exact List.length_pos_iff.mpr z
    · rw [Ts.of_l]; omega
    · rw [Ts.ok_l, Ts.of_l]
      exact fun p hp' => ⟨(hp p hp').1, (hp p hp').2.1 _ (by omega)⟩
    · rw [Tr.nodes, Ts.nodes_l, Ts.of_l]
      have key : ∀ l : List (Int × Tr), (∀ p ∈ l, p.2.nodes = 1) → (l.map (·.2.nodes)).sum = l.length := by
        intro l
        induction l with
        | nil => intro _; rfl
        | cons p l ih =>
          intro hh
          rw [List.map_cons, List.sum_cons, hh p List.mem_cons_self, ih fun q hq => hh q (List.mem_cons_of_mem _ hq), List.length_cons]
          omega
      rw [key ps fun p hp' => (hp p hp').2.2.1]
      omega
    · unfold tmD
      rw [d_sum, Ts.of_l]
      rfl
theorem rule_2 {l m : Nat} {s : Sto} (h : Wat l s) {ns : List Str} (hn : NmsU ns) {ws : List Int} (hw : Wts ws) (hm : l ≠ m) {xs : List PyData} (g : s[m]? = some (.lst xs)) (hx : xs.length ≤ 1000) (x2 x5 x6 x7 x8 : Option W) (n : Nat) :
    RWp (go (denSs (run tab (n + 3)) B__law_rule_3 [some (.r l), some (.d (.list (ns.map .str))), x2, some (.d (.list (ws.map .int))), some (.r m), x5, x6, x7, x8]) s) fun p s' => p.1 = .nx ∧ (∃ x7 x8 : Option W, p.2 = [some (.r l), some (.d (.list (ns.map .str))), x2, some (.d (.list (ws.map .int))), some (.r m), x5, x6, x7, x8]) ∧ ∃ q : Int × Tr, Wt q.1 ∧ Lf2 ns q.2 ∧ (∀ s0 : Sto, l < s0.length → s0.length ≤ m → Dps l s0 s → Dps l s0 s') ∧ Wat l s' ∧ s'[m]? = some (.lst (xs ++ [tmD q])) := by
  unfold B__law_rule_3
  have hl := h.lt
  have ml := get_lt g
  simp only [den_cons, den_nil, denS, denE, denA, denO, denL, denI, denT, denTs, denC, go_bind, go_pure, go_bad, bindR_ok, bindR_bad, bindR_bindR, bindR_ite, go_ite, go_ofS, go_rdD, go_fzD, go_asB, go_asI, go_slot, slot_s, go_slotF, slotF_s, go_noX, noR_ok, noR_ite, go_opD, go_cmpB, go_cmp, go_isi, go_neg, go_rdL_nil, go_rdL_cons, go_fzL_nil, go_fzL_cons, go_bi1, go_bi2, go_slc, go_tup, go_disp, go_fz, go_seqL, go_seqT, go_enumL, go_enumT, go_zipTT, go_zipLL, go_zipTL, go_zipLT, Nat.sub_self, go_sclS, go_scsS, go_listT, go_listL, go_new, gc_d, gc_ite, take_len, take_app, go_newDc, chkDc_s, modDc_s, go_keyS, go_keyI, go_starT, go_starL, List.set_cons_zero, List.set_cons_succ, List.map_cons, List.map_nil, List.cons_append, List.nil_append, List.replicate_succ, List.replicate_zero, List.length_cons, List.length_nil, Tgs.len, wipeR, List.getD_cons_zero, List.getD_cons_succ, Nat.zero_le, if_true, show (0 + 1 + 1 + 1 + 1 : Nat) ≤ SZ by decide]
  refine rw_bind ((u_ofL (h.app [.lst []]) (xs := [.int 0, .int 0, .int 1, .int 2]) (by simp) (by simp) (n + 1)).mono ?_)
  rintro w s1 ⟨⟨d, hd, rfl⟩, dr1⟩
  obtain ⟨k, rfl, hk⟩ : ∃ k : Nat, d = .int k ∧ k ≤ 2 := by
    simp only [List.mem_cons, List.not_mem_nil, or_false] at hd
    rcases hd with rfl | rfl | rfl | rfl
    · exact ⟨0, rfl, by decide⟩
    · exact ⟨0, rfl, by decide⟩
    · exact ⟨1, rfl, by decide⟩
    · exact ⟨2, rfl, by decide⟩
  have hl' : l < (s ++ [Bx.lst []]).length := (h.app _).lt
  simp only [den_cons, den_nil, denS, denE, denA, denO, denL, denI, denT, denTs, denC, go_bind, go_pure, go_bad, bindR_ok, bindR_bad, bindR_bindR, bindR_ite, go_ite, go_ofS, go_rdD, go_fzD, go_asB, go_asI, go_slot, slot_s, go_slotF, slotF_s, go_noX, noR_ok, noR_ite, go_opD, go_cmpB, go_cmp, go_isi, go_neg, go_rdL_nil, go_rdL_cons, go_fzL_nil, go_fzL_cons, go_bi1, go_bi2, go_slc, go_tup, go_disp, go_fz, go_seqL, go_seqT, go_enumL, go_enumT, go_zipTT, go_zipLL, go_zipTL, go_zipLT, Nat.sub_self, go_sclS, go_scsS, go_listT, go_listL, go_new, gc_d, gc_ite, take_len, take_app, go_newDc, chkDc_s, modDc_s, go_keyS, go_keyI, go_starT, go_starL, List.set_cons_zero, List.set_cons_succ, List.map_cons, List.map_nil, List.cons_append, List.nil_append, List.replicate_succ, List.replicate_zero, List.length_cons, List.length_nil, Tgs.len, wipeR, List.getD_cons_zero, List.getD_cons_succ, go_rngN (show k ≤ 1000 by omega)]
  refine rw_bind (rw_forT (fun i : Nat => .int (i : Int)) (fun rem ρ s' => ∃ (ps : List (Int × Tr)) (x8 : Option W), ρ = [some (.r l), some (.d (.list (ns.map .str))), x2, some (.d (.list (ws.map .int))), some (.r m), x5, x6, some (.r s.length), x8] ∧ Wat l s' ∧ s'[m]? = some (.lst xs) ∧ s'[s.length]? = some (.lst (ps.map tmD)) ∧ (∀ p ∈ ps, Wt p.1 ∧ Lf1 ns p.2) ∧ ps.length + rem.length = k ∧ (∀ s0 : Sto, l < s0.length → s0.length ≤ m → Dps l s0 s → Dps l s0 s')) _ _ _ ?h0 ?hs ?hd)
  case h0 =>
    refine ⟨[], _, rfl, dr1.at hl', by rw [dr1.keep hm]; exact get_app g, by rw [dr1.keep (by omega)]; exact get_last s _, (fun p hp => nomatch hp), by rw [List.length_range]; simp, fun s0 h0 h1 h2 => (h2.app _).drw h0 dr1⟩
  case hs =>
    rintro i r ρ s' hi ⟨ps, y8, rfl, wt, gm, g2, hp, e, dp⟩
    rw [List.length_cons] at e
    simp only [den_cons, den_nil, denS, denE, denA, denO, denL, denI, denT, denTs, denC, go_bind, go_pure, go_bad, bindR_ok, bindR_bad, bindR_bindR, bindR_ite, go_ite, go_ofS, go_rdD, go_fzD, go_asB, go_asI, go_slot, slot_s, go_slotF, slotF_s, go_noX, noR_ok, noR_ite, go_opD, go_cmpB, go_cmp, go_isi, go_neg, go_rdL_nil, go_rdL_cons, go_fzL_nil, go_fzL_cons, go_bi1, go_bi2, go_slc, go_tup, go_disp, go_fz, go_seqL, go_seqT, go_enumL, go_enumT, go_zipTT, go_zipLL, go_zipTL, go_zipLT, Nat.sub_self, go_sclS, go_scsS, go_listT, go_listL, go_new, gc_d, gc_ite, take_len, take_app, go_newDc, chkDc_s, modDc_s, go_keyS, go_keyI, go_starT, go_starL, List.set_cons_zero, List.set_cons_succ, List.map_cons, List.map_nil, List.cons_append, List.nil_append, List.replicate_succ, List.replicate_zero, List.length_cons, List.length_nil, Tgs.len, wipeR, List.getD_cons_zero, List.getD_cons_succ]
    refine (rule_3 wt hn hw (show l ≠ s.length by omega) g2 (by rw [List.length_map]; omega) x2 _ x5 x6 _ n).mono ?_
    rintro p s2 ⟨rfl, q, s3, q1, q2, dr3, rfl⟩
    refine ⟨ps ++ [q], _, rfl, ?_, ?_, ?_, ?_, by rw [List.length_append, List.length_singleton]; omega, fun s0 h0 h1 h2 => ((dp s0 h0 h1 h2).drw h0 dr3).set (by omega) _⟩
    · exact (dr3.at wt.lt).set (by omega) _
    · rw [List.getElem?_set_ne (by omega), dr3.keep hm]; exact gm
    · rw [List.getElem?_set_self (by rw [dr3.len]; exact get_lt g2), List.map_append]; rfl
    · intro p hp'
      rcases List.mem_append.mp hp' with z | z
      · exact hp p z
      · rw [List.mem_singleton.mp z]; exact ⟨q1, q2⟩
  case hd =>
    rintro ρ s' ⟨ps, y8, rfl, wt, gm, g2, hp, e, dp⟩
    rw [List.length_nil, Nat.add_zero] at e
    dsimp only
    refine (rule_4 wt hn hw hm (show l ≠ s.length by omega) gm hx g2 hp (by omega) x2 x5 x6 y8 n).mono ?_
    rintro p s2 ⟨rfl, q, s3, q1, q2, dr3, rfl⟩
    refine ⟨rfl, ⟨_, _, rfl⟩, q, q1, q2, fun s0 h0 h1 h2 => ((dp s0 h0 h1 h2).drw h0 dr3).set h1 _, (dr3.at wt.lt).set hm _, ?_⟩
    rw [List.getElem?_set_self (by rw [dr3.len]; exact get_lt gm)]
end Gk
namespace Gk
open PySem PySem.Spec L2 Gd
theorem lf2_rtr {ns : List Str} {qs : List (Int × Tr)} (h : ∀ q ∈ qs, Wt q.1 ∧ Lf2 ns q.2) (h1 : 1 ≤ qs.length) (h2 : qs.length ≤ 3) : RTr ns (.sum (Ts.of qs)) := by
  refine ⟨⟨by decide, by rw [Ts.of_l]; exact h1, by rw [Ts.of_l]; omega, ?_⟩, ?_⟩
  · rw [Ts.ok_l, Ts.of_l]
    exact fun p hp => ⟨(h p hp).1, (h p hp).2.1 _ (by decide)⟩
  · rw [Tr.nodes, Ts.nodes_l, Ts.of_l]
    have key : ∀ l : List (Int × Tr), (∀ p ∈ l, p.2.nodes ≤ 3) → (l.map (·.2.nodes)).sum ≤ 3 * l.length := by
      intro l
      induction l with
      | nil => intro _; simp
      | cons p l ih =>
        intro hh
        have a := hh p List.mem_cons_self
        have b := ih fun q hq => hh q (List.mem_cons_of_mem _ hq)
        simp only [List.map_cons, List.sum_cons, List.length_cons]
        omega
    have := key qs fun p hp => (h p hp).2.2
    omega
theorem rule_1 {l m : Nat} {s : Sto} (h : Wat l s) {ns : List Str} (hn : NmsU ns) {ws : List Int} (hw : Wts ws) (hm : l ≠ m) (g : s[m]? = some (.lst [])) (sc : Int) (x2 x6 x7 x8 : Option W) (n : Nat) :
    RWp (go (denSs (run tab (n + 3)) B__law_rule_2 [some (.r l), some (.d (.list (ns.map .str))), x2, some (.d (.list (ws.map .int))), some (.r m), some (.d (.int sc)), x6, x7, x8]) s) fun p s' => (∃ t, p.1 = .rt (.d (ruD t sc)) ∧ RTr ns t) ∧ (∀ s0 : Sto, l < s0.length → s0.length ≤ m → Dps l s0 s → Dps l s0 s') := by
  unfold B__law_rule_2
  have hl := h.lt
  simp only [den_cons, den_nil, denS, denE, denA, denO, denL, denI, denT, denTs, denC, go_bind, go_pure, go_bad, bindR_ok, bindR_bad, bindR_bindR, bindR_ite, go_ite, go_ofS, go_rdD, go_fzD, go_asB, go_asI, go_slot, slot_s, go_slotF, slotF_s, go_noX, noR_ok, noR_ite, go_opD, go_cmpB, go_cmp, go_isi, go_neg, go_rdL_nil, go_rdL_cons, go_fzL_nil, go_fzL_cons, go_bi1, go_bi2, go_slc, go_tup, go_disp, go_fz, go_seqL, go_seqT, go_enumL, go_enumT, go_zipTT, go_zipLL, go_zipTL, go_zipLT, Nat.sub_self, go_sclS, go_scsS, go_listT, go_listL, go_new, gc_d, gc_ite, take_len, take_app, go_newDc, chkDc_s, modDc_s, go_keyS, go_keyI, go_starT, go_starL, List.set_cons_zero, List.set_cons_succ, List.map_cons, List.map_nil, List.cons_append, List.nil_append, List.replicate_succ, List.replicate_zero, List.length_cons, List.length_nil, Tgs.len, wipeR, List.getD_cons_zero, List.getD_cons_succ]
  refine rw_bind ((u_take h (lim := 3) (by decide) (by decide) (n + 2)).mono ?_)
  rintro w s1 ⟨⟨j, rfl, hj⟩, dr1⟩
  simp only [den_cons, den_nil, denS, denE, denA, denO, denL, denI, denT, denTs, denC, go_bind, go_pure, go_bad, bindR_ok, bindR_bad, bindR_bindR, bindR_ite, go_ite, go_ofS, go_rdD, go_fzD, go_asB, go_asI, go_slot, slot_s, go_slotF, slotF_s, go_noX, noR_ok, noR_ite, go_opD, go_cmpB, go_cmp, go_isi, go_neg, go_rdL_nil, go_rdL_cons, go_fzL_nil, go_fzL_cons, go_bi1, go_bi2, go_slc, go_tup, go_disp, go_fz, go_seqL, go_seqT, go_enumL, go_enumT, go_zipTT, go_zipLL, go_zipTL, go_zipLT, Nat.sub_self, go_sclS, go_scsS, go_listT, go_listL, go_new, gc_d, gc_ite, take_len, take_app, go_newDc, chkDc_s, modDc_s, go_keyS, go_keyI, go_starT, go_starL, List.set_cons_zero, List.set_cons_succ, List.map_cons, List.map_nil, List.cons_append, List.nil_append, List.replicate_succ, List.replicate_zero, List.length_cons, List.length_nil, Tgs.len, wipeR, List.getD_cons_zero, List.getD_cons_succ, add_1n', go_rngN (show 1 + j ≤ 1000 by omega)]
  refine rw_bind (rw_forT (fun i : Nat => .int (i : Int)) (fun rem ρ s' => ∃ (qs : List (Int × Tr)) (x6 x7 x8 : Option W), ρ = [some (.r l), some (.d (.list (ns.map .str))), x2, some (.d (.list (ws.map .int))), some (.r m), some (.d (.int sc)), x6, x7, x8] ∧ Wat l s' ∧ s'[m]? = some (.lst (qs.map tmD)) ∧ (∀ q ∈ qs, Wt q.1 ∧ Lf2 ns q.2) ∧ qs.length + rem.length = 1 + j ∧ (∀ s0 : Sto, l < s0.length → s0.length ≤ m → Dps l s0 s → Dps l s0 s')) _ _ _ ?h0 ?hs ?hd)
  case h0 => exact ⟨[], _, _, _, rfl, dr1.at hl, by rw [dr1.keep hm]; exact g, (fun q hq => nomatch hq), by rw [List.length_range]; simp, fun s0 h0 h1 h2 => h2.drw h0 dr1⟩
  case hs =>
    rintro i r ρ s' hi ⟨qs, y6, y7, y8, rfl, wt, gm, hq, e, dp⟩
    rw [List.length_cons] at e
    simp only [den_cons, den_nil, denS, denE, denA, denO, denL, denI, denT, denTs, denC, go_bind, go_pure, go_bad, bindR_ok, bindR_bad, bindR_bindR, bindR_ite, go_ite, go_ofS, go_rdD, go_fzD, go_asB, go_asI, go_slot, slot_s, go_slotF, slotF_s, go_noX, noR_ok, noR_ite, go_opD, go_cmpB, go_cmp, go_isi, go_neg, go_rdL_nil, go_rdL_cons, go_fzL_nil, go_fzL_cons, go_bi1, go_bi2, go_slc, go_tup, go_disp, go_fz, go_seqL, go_seqT, go_enumL, go_enumT, go_zipTT, go_zipLL, go_zipTL, go_zipLT, Nat.sub_self, go_sclS, go_scsS, go_listT, go_listL, go_new, gc_d, gc_ite, take_len, take_app, go_newDc, chkDc_s, modDc_s, go_keyS, go_keyI, go_starT, go_starL, List.set_cons_zero, List.set_cons_succ, List.map_cons, List.map_nil, List.cons_append, List.nil_append, List.replicate_succ, List.replicate_zero, List.length_cons, List.length_nil, Tgs.len, wipeR, List.getD_cons_zero, List.getD_cons_succ]
    refine (rule_2 wt hn hw hm gm (by rw [List.length_map]; omega) x2 _ _ y7 y8 n).mono ?_
    rintro ⟨fl, ρ⟩ s2 ⟨rfl, ⟨z7, z8, rfl⟩, q, q1, q2, dp2, wt2, g2⟩
    refine ⟨qs ++ [q], _, _, _, rfl, wt2, by rw [List.map_append]; exact g2, ?_, by rw [List.length_append, List.length_singleton]; omega, fun s0 h0 h1 h2 => dp2 s0 h0 h1 (dp s0 h0 h1 h2)⟩
    intro p hp'
    rcases List.mem_append.mp hp' with z | z
    · exact hq p z
    · rw [List.mem_singleton.mp z]; exact ⟨q1, q2⟩
  case hd =>
    rintro ρ s' ⟨qs, y6, y7, y8, rfl, wt, gm, hq, e, dp⟩
    rw [List.length_nil, Nat.add_zero] at e
    unfold B__law_rule_6
    simp only [den_cons, den_nil, denS, denE, denA, denO, denL, denI, denT, denTs, denC, go_bind, go_pure, go_bad, bindR_ok, bindR_bad, bindR_bindR, bindR_ite, go_ite, go_ofS, go_rdD, go_fzD, go_asB, go_asI, go_slot, slot_s, go_slotF, slotF_s, go_noX, noR_ok, noR_ite, go_opD, go_cmpB, go_cmp, go_isi, go_neg, go_rdL_nil, go_rdL_cons, go_fzL_nil, go_fzL_cons, go_bi1, go_bi2, go_slc, go_tup, go_disp, go_fz, go_seqL, go_seqT, go_enumL, go_enumT, go_zipTT, go_zipLL, go_zipTL, go_zipLT, Nat.sub_self, go_sclS, go_scsS, go_listT, go_listL, go_new, gc_d, gc_ite, take_len, take_app, go_newDc, chkDc_s, modDc_s, go_keyS, go_keyI, go_starT, go_starL, List.set_cons_zero, List.set_cons_succ, List.map_cons, List.map_nil, List.cons_append, List.nil_append, List.replicate_succ, List.replicate_zero, List.length_cons, List.length_nil, Tgs.len, wipeR, List.getD_cons_zero, List.getD_cons_succ, go_biC _ gm, tup_L, show (0 + 1 + 1 : Nat) ≤ SZ by decide, if_true]
    exact ⟨⟨_, by unfold ruD; rw [d_sum, Ts.of_l], lf2_rtr hq (by omega) (by omega)⟩, dp⟩
theorem rule_r {l : Nat} {s : Sto} (h : Wat l s) {ns : List Str} (hn : NmsU ns) (up : Bool) (n : Nat) (ws : List Int) (s2 : Sto) (hw : Wts ws) (dr2 : Drw l s s2) {m : Nat} (hm : m = s.length) : RWp (go (denSs (run tab (n + 3)) B__law_rule_1 [some (.r l), some (.d (.list (ns.map .str))), some (.d (.bool up)), some (.d (.list (ws.map .int))), some (.r m), none, none, none, none]) (s2 ++ [.lst []])) fun p s' => (∃ t sc, p.1 = .rt (.d (ruD t sc)) ∧ RTr ns t ∧ Scl sc) ∧ Dps l s s' := by
  subst hm
  unfold B__law_rule_1
  have hl := h.lt
  have pw : binD .pow (.int 10) (.int 6) = some (.int 1000000) := by kernel_rfl
  have d2 : Dps l s (s2 ++ [.lst []]) := (Dps.of dr2).app _
  simp only [den_cons, den_nil, denS, denE, denA, denO, denL, denI, denT, denTs, denC, go_bind, go_pure, go_bad, bindR_ok, bindR_bad, bindR_bindR, bindR_ite, go_ite, go_ofS, go_rdD, go_fzD, go_asB, go_asI, go_slot, slot_s, go_slotF, slotF_s, go_noX, noR_ok, noR_ite, go_opD, go_cmpB, go_cmp, go_isi, go_neg, go_rdL_nil, go_rdL_cons, go_fzL_nil, go_fzL_cons, go_bi1, go_bi2, go_slc, go_tup, go_disp, go_fz, go_seqL, go_seqT, go_enumL, go_enumT, go_zipTT, go_zipLL, go_zipTL, go_zipLT, Nat.sub_self, go_sclS, go_scsS, go_listT, go_listL, go_new, gc_d, gc_ite, take_len, take_app, go_newDc, chkDc_s, modDc_s, go_keyS, go_keyI, go_starT, go_starL, List.set_cons_zero, List.set_cons_succ, List.map_cons, List.map_nil, List.cons_append, List.nil_append, List.replicate_succ, List.replicate_zero, List.length_cons, List.length_nil, Tgs.len, wipeR, List.getD_cons_zero, List.getD_cons_succ, pw]
  refine rw_bind ((u_take (d2.at hl) (lim := 1000000) (by decide) (by decide) (n + 2)).mono ?_)
  rintro w s3 ⟨⟨k, rfl, hk⟩, dr3⟩
  have d3 := d2.drw hl dr3
  have gm : s3[s.length]? = some (.lst []) := by rw [dr3.keep (by omega)]; exact dr2.get _
  simp only [den_cons, den_nil, denS, denE, denA, denO, denL, denI, denT, denTs, denC, go_bind, go_pure, go_bad, bindR_ok, bindR_bad, bindR_bindR, bindR_ite, go_ite, go_ofS, go_rdD, go_fzD, go_asB, go_asI, go_slot, slot_s, go_slotF, slotF_s, go_noX, noR_ok, noR_ite, go_opD, go_cmpB, go_cmp, go_isi, go_neg, go_rdL_nil, go_rdL_cons, go_fzL_nil, go_fzL_cons, go_bi1, go_bi2, go_slc, go_tup, go_disp, go_fz, go_seqL, go_seqT, go_enumL, go_enumT, go_zipTT, go_zipLL, go_zipTL, go_zipLT, Nat.sub_self, go_sclS, go_scsS, go_listT, go_listL, go_new, gc_d, gc_ite, take_len, take_app, go_newDc, chkDc_s, modDc_s, go_keyS, go_keyI, go_starT, go_starL, List.set_cons_zero, List.set_cons_succ, List.map_cons, List.map_nil, List.cons_append, List.nil_append, List.replicate_succ, List.replicate_zero, List.length_cons, List.length_nil, Tgs.len, wipeR, List.getD_cons_zero, List.getD_cons_succ, add_1n', show (0 + 1 + 1 + 1 + 1 : Nat) ≤ SZ by decide, if_true]
  refine rw_bind ((u_ofL (d3.at hl) (xs := [.int 1, .int 10, .int 100, .int ((1 + k : Nat) : Int)]) (by simp) (by simp) (n + 1)).mono ?_)
  rintro w s4 ⟨⟨d, hd, rfl⟩, dr4⟩
  have d4 := d3.drw hl dr4
  have gm4 : s4[s.length]? = some (.lst []) := by rw [dr4.keep (by omega)]; exact gm
  obtain ⟨sc, rfl, hsc⟩ : ∃ sc : Int, d = .int sc ∧ Scl sc := by
    simp only [List.mem_cons, List.not_mem_nil, or_false] at hd
    unfold Scl
    rcases hd with rfl | rfl | rfl | rfl
    · exact ⟨1, rfl, by decide, by decide⟩
    · exact ⟨10, rfl, by decide, by decide⟩
    · exact ⟨100, rfl, by decide, by decide⟩
    · exact ⟨_, rfl, by omega, by omega⟩
  refine rw_bind ((u_take (d4.at hl) (lim := 4) (by decide) (by decide) (n + 2)).mono ?_)
  rintro w s5 ⟨⟨way, rfl, hway⟩, dr5⟩
  have d5 := d4.drw hl dr5
  simp only [den_cons, den_nil, denS, denE, denA, denO, denL, denI, denT, denTs, denC, go_bind, go_pure, go_bad, bindR_ok, bindR_bad, bindR_bindR, bindR_ite, go_ite, go_ofS, go_rdD, go_fzD, go_asB, go_asI, go_slot, slot_s, go_slotF, slotF_s, go_noX, noR_ok, noR_ite, go_opD, go_cmpB, go_cmp, go_isi, go_neg, go_rdL_nil, go_rdL_cons, go_fzL_nil, go_fzL_cons, go_bi1, go_bi2, go_slc, go_tup, go_disp, go_fz, go_seqL, go_seqT, go_enumL, go_enumT, go_zipTT, go_zipLL, go_zipTL, go_zipLT, Nat.sub_self, go_sclS, go_scsS, go_listT, go_listL, go_new, gc_d, gc_ite, take_len, take_app, go_newDc, chkDc_s, modDc_s, go_keyS, go_keyI, go_starT, go_starL, List.set_cons_zero, List.set_cons_succ, List.map_cons, List.map_nil, List.cons_append, List.nil_append, List.replicate_succ, List.replicate_zero, List.length_cons, List.length_nil, Tgs.len, wipeR, List.getD_cons_zero, List.getD_cons_succ, cmp_eqI]
  by_cases z : (way : Int) = 0
  · simp only [decide_eq_true z, if_true, den_cons, den_nil, denS, denE, denA, denO, denL, denI, denT, denTs, denC, go_bind, go_pure, go_bad, bindR_ok, bindR_bad, bindR_bindR, bindR_ite, go_ite, go_ofS, go_rdD, go_fzD, go_asB, go_asI, go_slot, slot_s, go_slotF, slotF_s, go_noX, noR_ok, noR_ite, go_opD, go_cmpB, go_cmp, go_isi, go_neg, go_rdL_nil, go_rdL_cons, go_fzL_nil, go_fzL_cons, go_bi1, go_bi2, go_slc, go_tup, go_disp, go_fz, go_seqL, go_seqT, go_enumL, go_enumT, go_zipTT, go_zipLL, go_zipTL, go_zipLT, Nat.sub_self, go_sclS, go_scsS, go_listT, go_listL, go_new, gc_d, gc_ite, take_len, take_app, go_newDc, chkDc_s, modDc_s, go_keyS, go_keyI, go_starT, go_starL, List.set_cons_zero, List.set_cons_succ, List.map_cons, List.map_nil, List.cons_append, List.nil_append, List.replicate_succ, List.replicate_zero, List.length_cons, List.length_nil, Tgs.len, wipeR, List.getD_cons_zero, List.getD_cons_succ]
    refine rw_bind ((u_simple (d5.at hl) hn n).mono ?_)
    rintro w s6 ⟨⟨t, rfl, ht⟩, dr6⟩
    simp only [den_cons, den_nil, denS, denE, denA, denO, denL, denI, denT, denTs, denC, go_bind, go_pure, go_bad, bindR_ok, bindR_bad, bindR_bindR, bindR_ite, go_ite, go_ofS, go_rdD, go_fzD, go_asB, go_asI, go_slot, slot_s, go_slotF, slotF_s, go_noX, noR_ok, noR_ite, go_opD, go_cmpB, go_cmp, go_isi, go_neg, go_rdL_nil, go_rdL_cons, go_fzL_nil, go_fzL_cons, go_bi1, go_bi2, go_slc, go_tup, go_disp, go_fz, go_seqL, go_seqT, go_enumL, go_enumT, go_zipTT, go_zipLL, go_zipTL, go_zipLT, Nat.sub_self, go_sclS, go_scsS, go_listT, go_listL, go_new, gc_d, gc_ite, take_len, take_app, go_newDc, chkDc_s, modDc_s, go_keyS, go_keyI, go_starT, go_starL, List.set_cons_zero, List.set_cons_succ, List.map_cons, List.map_nil, List.cons_append, List.nil_append, List.replicate_succ, List.replicate_zero, List.length_cons, List.length_nil, Tgs.len, wipeR, List.getD_cons_zero, List.getD_cons_succ, show (0 + 1 + 1 : Nat) ≤ SZ by decide, if_true]
    exact ⟨⟨t, sc, rfl, ⟨ht.1 4 (by decide), by have := ht.2.1; omega⟩, hsc⟩, d5.drw hl dr6⟩
  · simp only [decide_eq_false z, Bool.false_eq_true, if_false, den_cons, den_nil, denS, denE, denA, denO, denL, denI, denT, denTs, denC, go_bind, go_pure, go_bad, bindR_ok, bindR_bad, bindR_bindR, bindR_ite, go_ite, go_ofS, go_rdD, go_fzD, go_asB, go_asI, go_slot, slot_s, go_slotF, slotF_s, go_noX, noR_ok, noR_ite, go_opD, go_cmpB, go_cmp, go_isi, go_neg, go_rdL_nil, go_rdL_cons, go_fzL_nil, go_fzL_cons, go_bi1, go_bi2, go_slc, go_tup, go_disp, go_fz, go_seqL, go_seqT, go_enumL, go_enumT, go_zipTT, go_zipLL, go_zipTL, go_zipLT, Nat.sub_self, go_sclS, go_scsS, go_listT, go_listL, go_new, gc_d, gc_ite, take_len, take_app, go_newDc, chkDc_s, modDc_s, go_keyS, go_keyI, go_starT, go_starL, List.set_cons_zero, List.set_cons_succ, List.map_cons, List.map_nil, List.cons_append, List.nil_append, List.replicate_succ, List.replicate_zero, List.length_cons, List.length_nil, Tgs.len, wipeR, List.getD_cons_zero, List.getD_cons_succ]
    refine (rule_1 (d5.at hl) hn hw (show l ≠ s.length by omega) (by rw [dr5.keep (by omega)]; exact gm4) sc _ none none none n).mono ?_
    rintro p s6 ⟨⟨t, e, ht⟩, dp⟩
    exact ⟨⟨t, sc, e, ht, hsc⟩, dp s hl (Nat.le_refl _) d5⟩
theorem u_rule {l : Nat} {s : Sto} (h : Wat l s) {ns : List Str} (hn : NmsU ns) (up : Bool) (n : Nat) : RWp (go (run tab (n + 4) F__law_rule [.r l, .d (.list (ns.map .str)), .d (.bool up)]) s) fun w s' => (∃ t sc, w = .d (ruD t sc) ∧ RTr ns t ∧ Scl sc) ∧ Drw l s s' := by
  rw [go_run _ T__law_rule (n + 3) _ _ ⟨rfl, by decide⟩, go_body]
  unfold D__law_rule B__law_rule
  have hl := h.lt
  simp only [den_cons, den_nil, denS, denE, denA, denO, denL, denI, denT, denTs, denC, go_bind, go_pure, go_bad, bindR_ok, bindR_bad, bindR_bindR, bindR_ite, go_ite, go_ofS, go_rdD, go_fzD, go_asB, go_asI, go_slot, slot_s, go_slotF, slotF_s, go_noX, noR_ok, noR_ite, go_opD, go_cmpB, go_cmp, go_isi, go_neg, go_rdL_nil, go_rdL_cons, go_fzL_nil, go_fzL_cons, go_bi1, go_bi2, go_slc, go_tup, go_disp, go_fz, go_seqL, go_seqT, go_enumL, go_enumT, go_zipTT, go_zipLL, go_zipTL, go_zipLT, Nat.sub_self, go_sclS, go_scsS, go_listT, go_listL, go_new, gc_d, gc_ite, take_len, take_app, go_newDc, chkDc_s, modDc_s, go_keyS, go_keyI, go_starT, go_starL, List.set_cons_zero, List.set_cons_succ, List.map_cons, List.map_nil, List.cons_append, List.nil_append, List.replicate_succ, List.replicate_zero, List.length_cons, List.length_nil, Tgs.len, wipeR, List.getD_cons_zero, List.getD_cons_succ]
  refine rw_gc (rw_bind ((u_take h (lim := 100) (by decide) (by decide) (n + 2)).mono ?_))
  rintro w s1 ⟨⟨j, rfl, hj⟩, dr1⟩
  simp only [den_cons, den_nil, denS, denE, denA, denO, denL, denI, denT, denTs, denC, go_bind, go_pure, go_bad, bindR_ok, bindR_bad, bindR_bindR, bindR_ite, go_ite, go_ofS, go_rdD, go_fzD, go_asB, go_asI, go_slot, slot_s, go_slotF, slotF_s, go_noX, noR_ok, noR_ite, go_opD, go_cmpB, go_cmp, go_isi, go_neg, go_rdL_nil, go_rdL_cons, go_fzL_nil, go_fzL_cons, go_bi1, go_bi2, go_slc, go_tup, go_disp, go_fz, go_seqL, go_seqT, go_enumL, go_enumT, go_zipTT, go_zipLL, go_zipTL, go_zipLT, Nat.sub_self, go_sclS, go_scsS, go_listT, go_listL, go_new, gc_d, gc_ite, take_len, take_app, go_newDc, chkDc_s, modDc_s, go_keyS, go_keyI, go_starT, go_starL, List.set_cons_zero, List.set_cons_succ, List.map_cons, List.map_nil, List.cons_append, List.nil_append, List.replicate_succ, List.replicate_zero, List.length_cons, List.length_nil, Tgs.len, wipeR, List.getD_cons_zero, List.getD_cons_succ, add_1n', show (0 + 1 + 1 + 1 + 1 + 1 : Nat) ≤ SZ by decide, Nat.zero_le, if_true]
  cases up with
  | true =>
    simp only [if_true, den_cons, den_nil, denS, denE, denA, denO, denL, denI, denT, denTs, denC, go_bind, go_pure, go_bad, bindR_ok, bindR_bad, bindR_bindR, bindR_ite, go_ite, go_ofS, go_rdD, go_fzD, go_asB, go_asI, go_slot, slot_s, go_slotF, slotF_s, go_noX, noR_ok, noR_ite, go_opD, go_cmpB, go_cmp, go_isi, go_neg, go_rdL_nil, go_rdL_cons, go_fzL_nil, go_fzL_cons, go_bi1, go_bi2, go_slc, go_tup, go_disp, go_fz, go_seqL, go_seqT, go_enumL, go_enumT, go_zipTT, go_zipLL, go_zipTL, go_zipLT, Nat.sub_self, go_sclS, go_scsS, go_listT, go_listL, go_new, gc_d, gc_ite, take_len, take_app, go_newDc, chkDc_s, modDc_s, go_keyS, go_keyI, go_starT, go_starL, List.set_cons_zero, List.set_cons_succ, List.map_cons, List.map_nil, List.cons_append, List.nil_append, List.replicate_succ, List.replicate_zero, List.length_cons, List.length_nil, Tgs.len, wipeR, List.getD_cons_zero, List.getD_cons_succ]
    have key := rule_r h hn true n [1, 2, 5, ((1 + j : Nat) : Int), 100] s1 ⟨by simp, by simp, fun w hw => by
      simp only [List.mem_cons, List.not_mem_nil, or_false] at hw
      unfold Wt
      omega⟩ dr1 dr1.len
    simp only [List.map_cons, List.map_nil] at key
    refine rw_bind (key.mono ?_)
    rintro ⟨fl, ρ⟩ s3 ⟨⟨t, sc, rfl, ht, hs⟩, d3⟩
    exact ⟨⟨t, sc, rfl, ht, hs⟩, d3.take⟩
  | false =>
    simp only [Bool.false_eq_true, if_false, den_cons, den_nil, denS, denE, denA, denO, denL, denI, denT, denTs, denC, go_bind, go_pure, go_bad, bindR_ok, bindR_bad, bindR_bindR, bindR_ite, go_ite, go_ofS, go_rdD, go_fzD, go_asB, go_asI, go_slot, slot_s, go_slotF, slotF_s, go_noX, noR_ok, noR_ite, go_opD, go_cmpB, go_cmp, go_isi, go_neg, go_rdL_nil, go_rdL_cons, go_fzL_nil, go_fzL_cons, go_bi1, go_bi2, go_slc, go_tup, go_disp, go_fz, go_seqL, go_seqT, go_enumL, go_enumT, go_zipTT, go_zipLL, go_zipTL, go_zipLT, Nat.sub_self, go_sclS, go_scsS, go_listT, go_listL, go_new, gc_d, gc_ite, take_len, take_app, go_newDc, chkDc_s, modDc_s, go_keyS, go_keyI, go_starT, go_starL, List.set_cons_zero, List.set_cons_succ, List.map_cons, List.map_nil, List.cons_append, List.nil_append, List.replicate_succ, List.replicate_zero, List.length_cons, List.length_nil, Tgs.len, wipeR, List.getD_cons_zero, List.getD_cons_succ, sub_i]
    refine rw_bind ((u_take ((dr1.at hl).app _) (lim := 100) (by decide) (by decide) (n + 2)).mono ?_)
    rintro w s3 ⟨⟨k, rfl, hk⟩, dr3⟩
    obtain ⟨s4, dr4, rfl⟩ := dr3.app (by rw [dr1.len]; exact hl)
    have dr4 := dr1.trans dr4
    have cat : binD .add (.list [.int 1, .int 2, .int 5, .int ((1 + j : Nat) : Int), .int 100]) (.list [.int (-1), .int (-3), .int (0 - 1 - (k : Int))]) = some (.list [.int 1, .int 2, .int 5, .int ((1 + j : Nat) : Int), .int 100, .int (-1), .int (-3), .int (0 - 1 - (k : Int))]) := cat_L (by simp only [List.length_cons, List.length_nil]; unfold SZ; omega)
    simp only [den_cons, den_nil, denS, denE, denA, denO, denL, denI, denT, denTs, denC, go_bind, go_pure, go_bad, bindR_ok, bindR_bad, bindR_bindR, bindR_ite, go_ite, go_ofS, go_rdD, go_fzD, go_asB, go_asI, go_slot, slot_s, go_slotF, slotF_s, go_noX, noR_ok, noR_ite, go_opD, go_cmpB, go_cmp, go_isi, go_neg, go_rdL_nil, go_rdL_cons, go_fzL_nil, go_fzL_cons, go_bi1, go_bi2, go_slc, go_tup, go_disp, go_fz, go_seqL, go_seqT, go_enumL, go_enumT, go_zipTT, go_zipLL, go_zipTL, go_zipLT, Nat.sub_self, go_sclS, go_scsS, go_listT, go_listL, go_new, gc_d, gc_ite, take_len, take_app, go_newDc, chkDc_s, modDc_s, go_keyS, go_keyI, go_starT, go_starL, List.set_cons_zero, List.set_cons_succ, List.map_cons, List.map_nil, List.cons_append, List.nil_append, List.replicate_succ, List.replicate_zero, List.length_cons, List.length_nil, Tgs.len, wipeR, List.getD_cons_zero, List.getD_cons_succ, sub_i, show (0 + 1 + 1 + 1 : Nat) ≤ SZ by decide, if_true, cat]
    have key := rule_r h hn false n [1, 2, 5, ((1 + j : Nat) : Int), 100, -1, -3, 0 - 1 - (k : Int)] s4 ⟨by simp, by simp, fun w hw => by
      simp only [List.mem_cons, List.not_mem_nil, or_false] at hw
      unfold Wt
      omega⟩ dr4 dr1.len
    simp only [List.map_cons, List.map_nil] at key
    refine rw_bind (key.mono ?_)
    rintro ⟨fl, ρ⟩ s5 ⟨⟨t, sc, rfl, ht, hs⟩, d5⟩
    exact ⟨⟨t, sc, rfl, ht, hs⟩, d5.take⟩
end Gk
namespace Gk
open PySem PySem.Spec L2 Gd
theorem u_scores {l : Nat} {s : Sto} (h : Wat l s) {ws : List Str} (hw : ws.length ≤ 9) (hn : ∀ x ∈ ws, Nm x) (pw : ws.Pairwise fun a b => strLt a b = true) (n : Nat) : RWp (go (run tab (n + 3) F__law_scores [.r l, .d (.list (ws.map .str))]) s) fun w s' => (∃ ps : List (Str × Int), w = .d (.tuple (ps.map prD)) ∧ ps.map (·.1) = ws ∧ ∀ p ∈ ps, 0 ≤ p.2 ∧ p.2 ≤ 100) ∧ Drw l s s' := by
  rw [go_run _ T__law_scores (n + 2) _ _ ⟨rfl, by decide⟩, go_body]
  unfold D__law_scores B__law_scores
  have hl := h.lt
  have srt := fun st => go_sort_nm (l := ws) (by omega) hn st
  rw [upS_id pw] at srt
  simp only [den_cons, den_nil, denS, denE, denA, denO, denL, denI, denT, denTs, denC, go_bind, go_pure, go_bad, bindR_ok, bindR_bad, bindR_bindR, bindR_ite, go_ite, go_ofS, go_rdD, go_fzD, go_asB, go_asI, go_slot, slot_s, go_slotF, slotF_s, go_noX, noR_ok, noR_ite, go_opD, go_cmpB, go_cmp, go_isi, go_neg, go_rdL_nil, go_rdL_cons, go_fzL_nil, go_fzL_cons, go_bi1, go_bi2, go_slc, go_tup, go_disp, go_fz, go_seqL, go_seqT, go_enumL, go_enumT, go_zipTT, go_zipLL, go_zipTL, go_zipLT, Nat.sub_self, go_sclS, go_scsS, go_listT, go_listL, go_new, gc_d, gc_ite, take_len, take_app, go_newDc, chkDc_s, modDc_s, go_keyS, go_keyI, go_starT, go_starL, List.set_cons_zero, List.set_cons_succ, List.map_cons, List.map_nil, List.cons_append, List.nil_append, List.replicate_succ, List.replicate_zero, List.length_cons, List.length_nil, Tgs.len, wipeR, List.getD_cons_zero, List.getD_cons_succ, Nat.zero_le, if_true]
  refine rw_gc (rw_bind ((u_take (h.app [.lst []]) (lim := 101) (by decide) (by decide) (n + 1)).mono ?_))
  rintro w s1 ⟨⟨near, rfl, hnear⟩, dr1⟩
  simp only [den_cons, den_nil, denS, denE, denA, denO, denL, denI, denT, denTs, denC, go_bind, go_pure, go_bad, bindR_ok, bindR_bad, bindR_bindR, bindR_ite, go_ite, go_ofS, go_rdD, go_fzD, go_asB, go_asI, go_slot, slot_s, go_slotF, slotF_s, go_noX, noR_ok, noR_ite, go_opD, go_cmpB, go_cmp, go_isi, go_neg, go_rdL_nil, go_rdL_cons, go_fzL_nil, go_fzL_cons, go_bi1, go_bi2, go_slc, go_tup, go_disp, go_fz, go_seqL, go_seqT, go_enumL, go_enumT, go_zipTT, go_zipLL, go_zipTL, go_zipLT, Nat.sub_self, go_sclS, go_scsS, go_listT, go_listL, go_new, gc_d, gc_ite, take_len, take_app, go_newDc, chkDc_s, modDc_s, go_keyS, go_keyI, go_starT, go_starL, List.set_cons_zero, List.set_cons_succ, List.map_cons, List.map_nil, List.cons_append, List.nil_append, List.replicate_succ, List.replicate_zero, List.length_cons, List.length_nil, Tgs.len, wipeR, List.getD_cons_zero, List.getD_cons_succ, srt]
  obtain ⟨s2, dr2, rfl⟩ := dr1.app hl
  refine rw_bind (rw_forT (fun x : Str => .str x) (fun rem ρ s' => ∃ (s3 : Sto) (ps : List (Str × Int)) (x4 : Option W), Drw l s s3 ∧ s' = s3 ++ [.lst (ps.map prD)] ∧ ρ = [some (.r l), some (.d (.list (ws.map .str))), some (.r s.length), some (.d (.int (near : Int))), x4] ∧ ps.map (·.1) ++ rem = ws ∧ ∀ p ∈ ps, 0 ≤ p.2 ∧ p.2 ≤ 100) _ _ _ ?h0 ?hs ?hd)
  case h0 => exact ⟨s2, [], _, dr2, rfl, rfl, rfl, fun p hp => nomatch hp⟩
  case hs =>
    rintro x r ρ s' hx ⟨s3, ps, x4, dr3, rfl, rfl, e, hp⟩
    have le := congrArg List.length e
    rw [List.length_append, List.length_map, List.length_cons] at le
    simp only [den_cons, den_nil, denS, denE, denA, denO, denL, denI, denT, denTs, denC, go_bind, go_pure, go_bad, bindR_ok, bindR_bad, bindR_bindR, bindR_ite, go_ite, go_ofS, go_rdD, go_fzD, go_asB, go_asI, go_slot, slot_s, go_slotF, slotF_s, go_noX, noR_ok, noR_ite, go_opD, go_cmpB, go_cmp, go_isi, go_neg, go_rdL_nil, go_rdL_cons, go_fzL_nil, go_fzL_cons, go_bi1, go_bi2, go_slc, go_tup, go_disp, go_fz, go_seqL, go_seqT, go_enumL, go_enumT, go_zipTT, go_zipLL, go_zipTL, go_zipLT, Nat.sub_self, go_sclS, go_scsS, go_listT, go_listL, go_new, gc_d, gc_ite, take_len, take_app, go_newDc, chkDc_s, modDc_s, go_keyS, go_keyI, go_starT, go_starL, List.set_cons_zero, List.set_cons_succ, List.map_cons, List.map_nil, List.cons_append, List.nil_append, List.replicate_succ, List.replicate_zero, List.length_cons, List.length_nil, Tgs.len, wipeR, List.getD_cons_zero, List.getD_cons_succ, chkL_s, go_chk _ (dr3.get _)]
    refine rw_bind ((u_take ((dr3.at hl).app _) (lim := 101) (by decide) (by decide) (n + 1)).mono ?_)
    rintro w s4 ⟨⟨i, rfl, hi⟩, dr4⟩
    have d3 : Dps l s (s3 ++ [.lst (ps.map prD)]) := (Dps.of dr3).app _
    have d4 := d3.drw hl dr4
    refine rw_bind ((u_take (d4.at hl) (lim := 101) (by decide) (by decide) (n + 1)).mono ?_)
    rintro w s5 ⟨⟨j, rfl, hj⟩, dr5⟩
    simp only [den_cons, den_nil, denS, denE, denA, denO, denL, denI, denT, denTs, denC, go_bind, go_pure, go_bad, bindR_ok, bindR_bad, bindR_bindR, bindR_ite, go_ite, go_ofS, go_rdD, go_fzD, go_asB, go_asI, go_slot, slot_s, go_slotF, slotF_s, go_noX, noR_ok, noR_ite, go_opD, go_cmpB, go_cmp, go_isi, go_neg, go_rdL_nil, go_rdL_cons, go_fzL_nil, go_fzL_cons, go_bi1, go_bi2, go_slc, go_tup, go_disp, go_fz, go_seqL, go_seqT, go_enumL, go_enumT, go_zipTT, go_zipLL, go_zipTL, go_zipLT, Nat.sub_self, go_sclS, go_scsS, go_listT, go_listL, go_new, gc_d, gc_ite, take_len, take_app, go_newDc, chkDc_s, modDc_s, go_keyS, go_keyI, go_starT, go_starL, List.set_cons_zero, List.set_cons_succ, List.map_cons, List.map_nil, List.cons_append, List.nil_append, List.replicate_succ, List.replicate_zero, List.length_cons, List.length_nil, Tgs.len, wipeR, List.getD_cons_zero, List.getD_cons_succ, show (0 + 1 + 1 + 1 + 1 + 1 + 1 : Nat) ≤ SZ by decide, if_true]
    have d5 := d4.drw hl dr5
    refine rw_bind ((u_ofL (d5.at hl) (xs := [.int 0, .int 100, .int 50, .int (near : Int), .int (i : Int), .int (j : Int)]) (by simp) (by simp) n).mono ?_)
    rintro w s6 ⟨⟨d, hd, rfl⟩, dr6⟩
    obtain ⟨v, rfl, hv⟩ : ∃ v : Int, d = .int v ∧ 0 ≤ v ∧ v ≤ 100 := by
      simp only [List.mem_cons, List.not_mem_nil, or_false] at hd
      rcases hd with rfl | rfl | rfl | rfl | rfl | rfl
      · exact ⟨0, rfl, by decide, by decide⟩
      · exact ⟨100, rfl, by decide, by decide⟩
      · exact ⟨50, rfl, by decide, by decide⟩
      · exact ⟨_, rfl, by omega, by omega⟩
      · exact ⟨_, rfl, by omega, by omega⟩
      · exact ⟨_, rfl, by omega, by omega⟩
    obtain ⟨s7, dr7, rfl⟩ := ((dr4.trans dr5).trans dr6).app (by rw [dr3.len]; exact hl)
    have dr7 := dr3.trans dr7
    simp only [den_cons, den_nil, denS, denE, denA, denO, denL, denI, denT, denTs, denC, go_bind, go_pure, go_bad, bindR_ok, bindR_bad, bindR_bindR, bindR_ite, go_ite, go_ofS, go_rdD, go_fzD, go_asB, go_asI, go_slot, slot_s, go_slotF, slotF_s, go_noX, noR_ok, noR_ite, go_opD, go_cmpB, go_cmp, go_isi, go_neg, go_rdL_nil, go_rdL_cons, go_fzL_nil, go_fzL_cons, go_bi1, go_bi2, go_slc, go_tup, go_disp, go_fz, go_seqL, go_seqT, go_enumL, go_enumT, go_zipTT, go_zipLL, go_zipTL, go_zipLT, Nat.sub_self, go_sclS, go_scsS, go_listT, go_listL, go_new, gc_d, gc_ite, take_len, take_app, go_newDc, chkDc_s, modDc_s, go_keyS, go_keyI, go_starT, go_starL, List.set_cons_zero, List.set_cons_succ, List.map_cons, List.map_nil, List.cons_append, List.nil_append, List.replicate_succ, List.replicate_zero, List.length_cons, List.length_nil, Tgs.len, wipeR, List.getD_cons_zero, List.getD_cons_succ, show (0 + 1 + 1 : Nat) ≤ SZ by decide, if_true, modL_s, go_mod _ _ (dr7.get _), app_ok _ (show (ps.map prD).length < SZ by rw [List.length_map]; unfold SZ; omega), dr7.put]
    refine ⟨s7, ps ++ [(x, v)], _, dr7, by rw [List.map_append]; rfl, rfl, by rw [List.map_append, ← e, List.append_assoc]; rfl, ?_⟩
    intro p hp'
    rcases List.mem_append.mp hp' with q | q
    · exact hp p q
    · rw [List.mem_singleton.mp q]; exact hv
  case hd =>
    rintro ρ s' ⟨s3, ps, x4, dr3, rfl, rfl, e, hp⟩
    rw [List.append_nil] at e
    simp only [den_cons, den_nil, denS, denE, denA, denO, denL, denI, denT, denTs, denC, go_bind, go_pure, go_bad, bindR_ok, bindR_bad, bindR_bindR, bindR_ite, go_ite, go_ofS, go_rdD, go_fzD, go_asB, go_asI, go_slot, slot_s, go_slotF, slotF_s, go_noX, noR_ok, noR_ite, go_opD, go_cmpB, go_cmp, go_isi, go_neg, go_rdL_nil, go_rdL_cons, go_fzL_nil, go_fzL_cons, go_bi1, go_bi2, go_slc, go_tup, go_disp, go_fz, go_seqL, go_seqT, go_enumL, go_enumT, go_zipTT, go_zipLL, go_zipTL, go_zipLT, Nat.sub_self, go_sclS, go_scsS, go_listT, go_listL, go_new, gc_d, gc_ite, take_len, take_app, go_newDc, chkDc_s, modDc_s, go_keyS, go_keyI, go_starT, go_starL, List.set_cons_zero, List.set_cons_succ, List.map_cons, List.map_nil, List.cons_append, List.nil_append, List.replicate_succ, List.replicate_zero, List.length_cons, List.length_nil, Tgs.len, wipeR, List.getD_cons_zero, List.getD_cons_succ, go_biC _ (dr3.get _), tup_L, dr3.app_take]
    exact ⟨⟨ps, rfl, e, hp⟩, by rw [dr3.app_take]; exact dr3⟩
end Gk
namespace Gk
open PySem PySem.Spec L2 Gd
def rqD (q : Tr × Int) : PyData := ruD q.1 q.2
def RQ (ns : List Str) (q : Tr × Int) : Prop := RTr ns q.1 ∧ Scl q.2
theorem rq_shp {ns : List Str} (hn : ∀ x ∈ ns, Nm x) {q : Tr × Int} (h : RQ ns q) : Shp 13 (rqD q) := Shp.tuple (m := 12) fun d hd => by
  simp only [List.mem_cons, List.not_mem_nil, or_false] at hd
  rcases hd with rfl | rfl
  · exact Tr.shp hn _ h.1.1
  · exact Shp.int _ _
theorem rq_ne {ns : List Str} (hn : ∀ x ∈ ns, Nm x) {rs : List (Tr × Int)} (h : ∀ q ∈ rs, RQ ns q) : cmpD .ne (.list (rs.map rqD)) (.list []) = some (!decide (rs = [])) := by
  rw [cmp_neL (m := 13) (fun x hx => ?_) (by decide)]
  · congr 2
    rw [Bool.eq_iff_iff]; simp
  · obtain ⟨q, hq, rfl⟩ := List.mem_map.mp hx
    exact rq_shp hn (h q hq)
theorem schemes_3 {m : Nat} {s : Sto} {xs : List PyData} (g : s[m]? = some (.lst xs)) (hx : xs.length < SZ) (x0 x1 x2 x4 : Option W) (d : PyData) (n : Nat) :
    go (denSs (run tab (n + 4)) B__law_schemes_3 [x0, x1, x2, some (.r m), x4, some (.d d)]) s = .ok (.nx, [x0, x1, x2, some (.r m), x4, some (.d d)]) (s.set m (.lst (xs ++ [d]))) := by
  unfold B__law_schemes_3
  simp only [den_cons, den_nil, denS, denE, denA, denO, denL, denI, denT, denTs, denC, go_bind, go_pure, go_bad, bindR_ok, bindR_bad, bindR_bindR, bindR_ite, go_ite, go_ofS, go_rdD, go_fzD, go_asB, go_asI, go_slot, slot_s, go_slotF, slotF_s, go_noX, noR_ok, noR_ite, go_opD, go_cmpB, go_cmp, go_isi, go_neg, go_rdL_nil, go_rdL_cons, go_fzL_nil, go_fzL_cons, go_bi1, go_bi2, go_slc, go_tup, go_disp, go_fz, go_seqL, go_seqT, go_enumL, go_enumT, go_zipTT, go_zipLL, go_zipTL, go_zipLT, Nat.sub_self, go_sclS, go_scsS, go_listT, go_listL, go_new, gc_d, gc_ite, take_len, take_app, go_newDc, chkDc_s, modDc_s, go_keyS, go_keyI, go_starT, go_starL, List.set_cons_zero, List.set_cons_succ, List.map_cons, List.map_nil, List.cons_append, List.nil_append, List.replicate_succ, List.replicate_zero, List.length_cons, List.length_nil, Tgs.len, wipeR, List.getD_cons_zero, List.getD_cons_succ, chkL_s, go_chk _ g, modL_s, go_mod _ _ g, app_ok _ hx]
theorem dbl_ok {ns : List Str} {q : Tr × Int} (h : RQ ns q) (hl : q.1.leaf = true) (h5 : q.2 ≤ 100000) : RQ ns (.sum (Ts.of [(2, q.1)]), 2 * q.2) ∧ rqD (.sum (Ts.of [(2, q.1)]), 2 * q.2) = .tuple [.tuple [.str "sum", .tuple [.tuple [.int 2, q.1.d]]], .int (2 * q.2)] := by
  obtain ⟨t, sc⟩ := q
  obtain ⟨⟨h1, h2⟩, h3, h4⟩ := h
  have ok3 : t.Ok ns 3 := by
    cases t with
    | work x => exact ⟨h1.1, by decide⟩
    | pick b k xs => exact ⟨by decide, h1.2⟩
    | sum ts => cases hl
  have n1 : t.nodes = 1 := by
    cases t with
    | work x => rfl
    | pick b k xs => rfl
    | sum ts => cases hl
  refine ⟨⟨⟨⟨by decide, by simp [Ts.of_l], by simp [Ts.of_l], ?_⟩, ?_⟩, ?_⟩, rfl⟩
  · rw [Ts.ok_l, Ts.of_l]
    intro p hp
    rw [List.mem_singleton.mp hp]
    exact ⟨show Wt 2 from ⟨by decide, by decide, by decide⟩, ok3⟩
  · show 1 + (t.nodes + 0) ≤ 14
    omega
  · have h3 : 1 ≤ sc := h3
    have h5 : sc ≤ 100000 := h5
    exact ⟨by show 1 ≤ 2 * sc; omega, by show 2 * sc ≤ 1000000; omega⟩
theorem schemes_2 {l m : Nat} {s : Sto} (h : Wat l s) {ns : List Str} (hn : ∀ x ∈ ns, Nm x) (hm : l ≠ m) {rs : List (Tr × Int)} (hr : ∀ q ∈ rs, RQ ns q) (g : s[m]? = some (.lst (rs.map rqD))) (hx : rs.length ≤ 100) {q : Tr × Int} (hq : RQ ns q) (x1 x2 x4 : Option W) (n : Nat) :
    RWp (go (denSs (run tab (n + 4)) B__law_schemes_2 [some (.r l), x1, x2, some (.r m), x4, some (.d (rqD q))]) s) fun p s' => p.1 = .nx ∧ (∃ q' : Tr × Int, RQ ns q' ∧ p.2 = [some (.r l), x1, x2, some (.r m), x4, some (.d (rqD q'))] ∧ ∃ s1, Drw l s s1 ∧ s' = s1.set m (.lst ((rs ++ [q']).map rqD))) := by
  unfold B__law_schemes_2
  have hl := h.lt
  have lx : (rs.map rqD).length < SZ := by rw [List.length_map]; unfold SZ; omega
  have i0 : idxD (rqD q) (.int 0) = some q.1.d := idx_0 _ _
  have i1 : idxD (rqD q) (.int 1) = some (.int q.2) := idx_1 _ _ _
  have p5 : binD .pow (.int 10) (.int 5) = some (.int 100000) := by kernel_rfl
  have cle : ∀ i j : Int, cmpD .le (.int i) (.int j) = some (decide (i ≤ j)) := fun _ _ => rfl
  have fin : ∀ {s1 : Sto}, Drw l s s1 → ∀ q' : Tr × Int, RQ ns q' → RWp (go (denSs (run tab (n + 4)) B__law_schemes_3 [some (.r l), x1, x2, some (.r m), x4, some (.d (rqD q'))]) s1) fun p s' => p.1 = .nx ∧ (∃ q' : Tr × Int, RQ ns q' ∧ p.2 = [some (.r l), x1, x2, some (.r m), x4, some (.d (rqD q'))] ∧ ∃ s1, Drw l s s1 ∧ s' = s1.set m (.lst ((rs ++ [q']).map rqD))) := fun {s1} dr q' h' => by
    rw [schemes_3 (by rw [dr.keep hm]; exact g) lx]
    exact ⟨rfl, q', h', rfl, s1, dr, by rw [List.map_append]; rfl⟩
  simp only [den_cons, den_nil, denS, denE, denA, denO, denL, denI, denT, denTs, denC, go_bind, go_pure, go_bad, bindR_ok, bindR_bad, bindR_bindR, bindR_ite, go_ite, go_ofS, go_rdD, go_fzD, go_asB, go_asI, go_slot, slot_s, go_slotF, slotF_s, go_noX, noR_ok, noR_ite, go_opD, go_cmpB, go_cmp, go_isi, go_neg, go_rdL_nil, go_rdL_cons, go_fzL_nil, go_fzL_cons, go_bi1, go_bi2, go_slc, go_tup, go_disp, go_fz, go_seqL, go_seqT, go_enumL, go_enumT, go_zipTT, go_zipLL, go_zipTL, go_zipLT, Nat.sub_self, go_sclS, go_scsS, go_listT, go_listL, go_new, gc_d, gc_ite, take_len, take_app, go_newDc, chkDc_s, modDc_s, go_keyS, go_keyI, go_starT, go_starL, List.set_cons_zero, List.set_cons_succ, List.map_cons, List.map_nil, List.cons_append, List.nil_append, List.replicate_succ, List.replicate_zero, List.length_cons, List.length_nil, Tgs.len, wipeR, List.getD_cons_zero, List.getD_cons_succ, Nat.zero_le, if_true, go_cmpLt _ g, rq_ne hn hr]
  by_cases z : rs = []
  · simp only [decide_eq_true z, Bool.not_true, Bool.false_eq_true, if_false, den_cons, den_nil, denS, denE, denA, denO, denL, denI, denT, denTs, denC, go_bind, go_pure, go_bad, bindR_ok, bindR_bad, bindR_bindR, bindR_ite, go_ite, go_ofS, go_rdD, go_fzD, go_asB, go_asI, go_slot, slot_s, go_slotF, slotF_s, go_noX, noR_ok, noR_ite, go_opD, go_cmpB, go_cmp, go_isi, go_neg, go_rdL_nil, go_rdL_cons, go_fzL_nil, go_fzL_cons, go_bi1, go_bi2, go_slc, go_tup, go_disp, go_fz, go_seqL, go_seqT, go_enumL, go_enumT, go_zipTT, go_zipLL, go_zipTL, go_zipLT, Nat.sub_self, go_sclS, go_scsS, go_listT, go_listL, go_new, gc_d, gc_ite, take_len, take_app, go_newDc, chkDc_s, modDc_s, go_keyS, go_keyI, go_starT, go_starL, List.set_cons_zero, List.set_cons_succ, List.map_cons, List.map_nil, List.cons_append, List.nil_append, List.replicate_succ, List.replicate_zero, List.length_cons, List.length_nil, Tgs.len, wipeR, List.getD_cons_zero, List.getD_cons_succ]
    exact fin h.refl q hq
  · simp only [decide_eq_false z, Bool.not_false, if_true, den_cons, den_nil, denS, denE, denA, denO, denL, denI, denT, denTs, denC, go_bind, go_pure, go_bad, bindR_ok, bindR_bad, bindR_bindR, bindR_ite, go_ite, go_ofS, go_rdD, go_fzD, go_asB, go_asI, go_slot, slot_s, go_slotF, slotF_s, go_noX, noR_ok, noR_ite, go_opD, go_cmpB, go_cmp, go_isi, go_neg, go_rdL_nil, go_rdL_cons, go_fzL_nil, go_fzL_cons, go_bi1, go_bi2, go_slc, go_tup, go_disp, go_fz, go_seqL, go_seqT, go_enumL, go_enumT, go_zipTT, go_zipLL, go_zipTL, go_zipLT, Nat.sub_self, go_sclS, go_scsS, go_listT, go_listL, go_new, gc_d, gc_ite, take_len, take_app, go_newDc, chkDc_s, modDc_s, go_keyS, go_keyI, go_starT, go_starL, List.set_cons_zero, List.set_cons_succ, List.map_cons, List.map_nil, List.cons_append, List.nil_append, List.replicate_succ, List.replicate_zero, List.length_cons, List.length_nil, Tgs.len, wipeR, List.getD_cons_zero, List.getD_cons_succ]
    refine rw_bind ((u_take h (lim := 5) (by decide) (by decide) (n + 3)).mono ?_)
    rintro w s1 ⟨⟨k, rfl, hk⟩, dr⟩
    simp only [den_cons, den_nil, denS, denE, denA, denO, denL, denI, denT, denTs, denC, go_bind, go_pure, go_bad, bindR_ok, bindR_bad, bindR_bindR, bindR_ite, go_ite, go_ofS, go_rdD, go_fzD, go_asB, go_asI, go_slot, slot_s, go_slotF, slotF_s, go_noX, noR_ok, noR_ite, go_opD, go_cmpB, go_cmp, go_isi, go_neg, go_rdL_nil, go_rdL_cons, go_fzL_nil, go_fzL_cons, go_bi1, go_bi2, go_slc, go_tup, go_disp, go_fz, go_seqL, go_seqT, go_enumL, go_enumT, go_zipTT, go_zipLL, go_zipTL, go_zipLT, Nat.sub_self, go_sclS, go_scsS, go_listT, go_listL, go_new, gc_d, gc_ite, take_len, take_app, go_newDc, chkDc_s, modDc_s, go_keyS, go_keyI, go_starT, go_starL, List.set_cons_zero, List.set_cons_succ, List.map_cons, List.map_nil, List.cons_append, List.nil_append, List.replicate_succ, List.replicate_zero, List.length_cons, List.length_nil, Tgs.len, wipeR, List.getD_cons_zero, List.getD_cons_succ, cmp_eqI]
    by_cases zk : (k : Int) = 0
    · simp only [decide_eq_true zk, if_true, den_cons, den_nil, denS, denE, denA, denO, denL, denI, denT, denTs, denC, go_bind, go_pure, go_bad, bindR_ok, bindR_bad, bindR_bindR, bindR_ite, go_ite, go_ofS, go_rdD, go_fzD, go_asB, go_asI, go_slot, slot_s, go_slotF, slotF_s, go_noX, noR_ok, noR_ite, go_opD, go_cmpB, go_cmp, go_isi, go_neg, go_rdL_nil, go_rdL_cons, go_fzL_nil, go_fzL_cons, go_bi1, go_bi2, go_slc, go_tup, go_disp, go_fz, go_seqL, go_seqT, go_enumL, go_enumT, go_zipTT, go_zipLL, go_zipTL, go_zipLT, Nat.sub_self, go_sclS, go_scsS, go_listT, go_listL, go_new, gc_d, gc_ite, take_len, take_app, go_newDc, chkDc_s, modDc_s, go_keyS, go_keyI, go_starT, go_starL, List.set_cons_zero, List.set_cons_succ, List.map_cons, List.map_nil, List.cons_append, List.nil_append, List.replicate_succ, List.replicate_zero, List.length_cons, List.length_nil, Tgs.len, wipeR, List.getD_cons_zero, List.getD_cons_succ, i1, p5, cle]
      by_cases z5 : q.2 ≤ 100000
      · simp only [decide_eq_true z5, if_true, den_cons, den_nil, denS, denE, denA, denO, denL, denI, denT, denTs, denC, go_bind, go_pure, go_bad, bindR_ok, bindR_bad, bindR_bindR, bindR_ite, go_ite, go_ofS, go_rdD, go_fzD, go_asB, go_asI, go_slot, slot_s, go_slotF, slotF_s, go_noX, noR_ok, noR_ite, go_opD, go_cmpB, go_cmp, go_isi, go_neg, go_rdL_nil, go_rdL_cons, go_fzL_nil, go_fzL_cons, go_bi1, go_bi2, go_slc, go_tup, go_disp, go_fz, go_seqL, go_seqT, go_enumL, go_enumT, go_zipTT, go_zipLL, go_zipTL, go_zipLT, Nat.sub_self, go_sclS, go_scsS, go_listT, go_listL, go_new, gc_d, gc_ite, take_len, take_app, go_newDc, chkDc_s, modDc_s, go_keyS, go_keyI, go_starT, go_starL, List.set_cons_zero, List.set_cons_succ, List.map_cons, List.map_nil, List.cons_append, List.nil_append, List.replicate_succ, List.replicate_zero, List.length_cons, List.length_nil, Tgs.len, wipeR, List.getD_cons_zero, List.getD_cons_succ, i0]
        obtain ⟨t, sc⟩ := q
        have s2 : small 2 = true := by decide
        cases t with
        | work x =>
          have e0 : idxD (Tr.work x).d (.int 0) = some (.str "work") := idx_0 _ _
          obtain ⟨a, b⟩ := dbl_ok hq rfl z5
          simp only [e0, h_nws, den_cons, den_nil, denS, denE, denA, denO, denL, denI, denT, denTs, denC, go_bind, go_pure, go_bad, bindR_ok, bindR_bad, bindR_bindR, bindR_ite, go_ite, go_ofS, go_rdD, go_fzD, go_asB, go_asI, go_slot, slot_s, go_slotF, slotF_s, go_noX, noR_ok, noR_ite, go_opD, go_cmpB, go_cmp, go_isi, go_neg, go_rdL_nil, go_rdL_cons, go_fzL_nil, go_fzL_cons, go_bi1, go_bi2, go_slc, go_tup, go_disp, go_fz, go_seqL, go_seqT, go_enumL, go_enumT, go_zipTT, go_zipLL, go_zipTL, go_zipLT, Nat.sub_self, go_sclS, go_scsS, go_listT, go_listL, go_new, gc_d, gc_ite, take_len, take_app, go_newDc, chkDc_s, modDc_s, go_keyS, go_keyI, go_starT, go_starL, List.set_cons_zero, List.set_cons_succ, List.map_cons, List.map_nil, List.cons_append, List.nil_append, List.replicate_succ, List.replicate_zero, List.length_cons, List.length_nil, Tgs.len, wipeR, List.getD_cons_zero, List.getD_cons_succ, if_true, i0, i1, mul_l s2, show (0 + 1 + 1 : Nat) ≤ SZ by decide, show (0 + 1 : Nat) ≤ SZ by decide, ← b]
          exact fin dr _ a
        | pick b' k' xs =>
          have e0 : idxD (Tr.pick b' k' xs).d (.int 0) = some (pkD b') := idx_0 _ _
          obtain ⟨a, b⟩ := dbl_ok hq rfl z5
          simp only [e0, h_nps, den_cons, den_nil, denS, denE, denA, denO, denL, denI, denT, denTs, denC, go_bind, go_pure, go_bad, bindR_ok, bindR_bad, bindR_bindR, bindR_ite, go_ite, go_ofS, go_rdD, go_fzD, go_asB, go_asI, go_slot, slot_s, go_slotF, slotF_s, go_noX, noR_ok, noR_ite, go_opD, go_cmpB, go_cmp, go_isi, go_neg, go_rdL_nil, go_rdL_cons, go_fzL_nil, go_fzL_cons, go_bi1, go_bi2, go_slc, go_tup, go_disp, go_fz, go_seqL, go_seqT, go_enumL, go_enumT, go_zipTT, go_zipLL, go_zipTL, go_zipLT, Nat.sub_self, go_sclS, go_scsS, go_listT, go_listL, go_new, gc_d, gc_ite, take_len, take_app, go_newDc, chkDc_s, modDc_s, go_keyS, go_keyI, go_starT, go_starL, List.set_cons_zero, List.set_cons_succ, List.map_cons, List.map_nil, List.cons_append, List.nil_append, List.replicate_succ, List.replicate_zero, List.length_cons, List.length_nil, Tgs.len, wipeR, List.getD_cons_zero, List.getD_cons_succ, if_true, i0, i1, mul_l s2, show (0 + 1 + 1 : Nat) ≤ SZ by decide, show (0 + 1 : Nat) ≤ SZ by decide, ← b]
          exact fin dr _ a
        | sum ts =>
          have e0 : idxD (Tr.sum ts).d (.int 0) = some (.str "sum") := idx_0 _ _
          simp only [e0, h_nss, den_cons, den_nil, denS, denE, denA, denO, denL, denI, denT, denTs, denC, go_bind, go_pure, go_bad, bindR_ok, bindR_bad, bindR_bindR, bindR_ite, go_ite, go_ofS, go_rdD, go_fzD, go_asB, go_asI, go_slot, slot_s, go_slotF, slotF_s, go_noX, noR_ok, noR_ite, go_opD, go_cmpB, go_cmp, go_isi, go_neg, go_rdL_nil, go_rdL_cons, go_fzL_nil, go_fzL_cons, go_bi1, go_bi2, go_slc, go_tup, go_disp, go_fz, go_seqL, go_seqT, go_enumL, go_enumT, go_zipTT, go_zipLL, go_zipTL, go_zipLT, Nat.sub_self, go_sclS, go_scsS, go_listT, go_listL, go_new, gc_d, gc_ite, take_len, take_app, go_newDc, chkDc_s, modDc_s, go_keyS, go_keyI, go_starT, go_starL, List.set_cons_zero, List.set_cons_succ, List.map_cons, List.map_nil, List.cons_append, List.nil_append, List.replicate_succ, List.replicate_zero, List.length_cons, List.length_nil, Tgs.len, wipeR, List.getD_cons_zero, List.getD_cons_succ, Bool.false_eq_true, if_false]
          exact fin dr _ hq
      · simp only [decide_eq_false z5, Bool.false_eq_true, if_false, den_cons, den_nil, denS, denE, denA, denO, denL, denI, denT, denTs, denC, go_bind, go_pure, go_bad, bindR_ok, bindR_bad, bindR_bindR, bindR_ite, go_ite, go_ofS, go_rdD, go_fzD, go_asB, go_asI, go_slot, slot_s, go_slotF, slotF_s, go_noX, noR_ok, noR_ite, go_opD, go_cmpB, go_cmp, go_isi, go_neg, go_rdL_nil, go_rdL_cons, go_fzL_nil, go_fzL_cons, go_bi1, go_bi2, go_slc, go_tup, go_disp, go_fz, go_seqL, go_seqT, go_enumL, go_enumT, go_zipTT, go_zipLL, go_zipTL, go_zipLT, Nat.sub_self, go_sclS, go_scsS, go_listT, go_listL, go_new, gc_d, gc_ite, take_len, take_app, go_newDc, chkDc_s, modDc_s, go_keyS, go_keyI, go_starT, go_starL, List.set_cons_zero, List.set_cons_succ, List.map_cons, List.map_nil, List.cons_append, List.nil_append, List.replicate_succ, List.replicate_zero, List.length_cons, List.length_nil, Tgs.len, wipeR, List.getD_cons_zero, List.getD_cons_succ]
        exact fin dr q hq
    · simp only [decide_eq_false zk, Bool.false_eq_true, if_false, den_cons, den_nil, denS, denE, denA, denO, denL, denI, denT, denTs, denC, go_bind, go_pure, go_bad, bindR_ok, bindR_bad, bindR_bindR, bindR_ite, go_ite, go_ofS, go_rdD, go_fzD, go_asB, go_asI, go_slot, slot_s, go_slotF, slotF_s, go_noX, noR_ok, noR_ite, go_opD, go_cmpB, go_cmp, go_isi, go_neg, go_rdL_nil, go_rdL_cons, go_fzL_nil, go_fzL_cons, go_bi1, go_bi2, go_slc, go_tup, go_disp, go_fz, go_seqL, go_seqT, go_enumL, go_enumT, go_zipTT, go_zipLL, go_zipTL, go_zipLT, Nat.sub_self, go_sclS, go_scsS, go_listT, go_listL, go_new, gc_d, gc_ite, take_len, take_app, go_newDc, chkDc_s, modDc_s, go_keyS, go_keyI, go_starT, go_starL, List.set_cons_zero, List.set_cons_succ, List.map_cons, List.map_nil, List.cons_append, List.nil_append, List.replicate_succ, List.replicate_zero, List.length_cons, List.length_nil, Tgs.len, wipeR, List.getD_cons_zero, List.getD_cons_succ]
      exact fin dr q hq
end Gk
namespace Gk
open PySem PySem.Spec L2 Gd
theorem schemes_1 {l m : Nat} {s : Sto} (h : Wat l s) {ns : List Str} (hn : NmsU ns) (hm : l ≠ m) {rs : List (Tr × Int)} (hr : ∀ q ∈ rs, RQ ns q) (g : s[m]? = some (.lst (rs.map rqD))) (hx : rs.length ≤ 100) (up : Bool) (x4 x5 : Option W) (n : Nat) :
    RWp (go (denSs (run tab (n + 4)) B__law_schemes_1 [some (.r l), some (.d (.list (ns.map .str))), some (.d (.bool up)), some (.r m), x4, x5]) s) fun p s' => p.1 = .nx ∧ (∃ q' : Tr × Int, RQ ns q' ∧ p.2 = [some (.r l), some (.d (.list (ns.map .str))), some (.d (.bool up)), some (.r m), x4, some (.d (rqD q'))] ∧ ∃ s1, Drw l s s1 ∧ s' = s1.set m (.lst ((rs ++ [q']).map rqD))) := by
  unfold B__law_schemes_1
  have hl := h.lt
  simp only [den_cons, den_nil, denS, denE, denA, denO, denL, denI, denT, denTs, denC, go_bind, go_pure, go_bad, bindR_ok, bindR_bad, bindR_bindR, bindR_ite, go_ite, go_ofS, go_rdD, go_fzD, go_asB, go_asI, go_slot, slot_s, go_slotF, slotF_s, go_noX, noR_ok, noR_ite, go_opD, go_cmpB, go_cmp, go_isi, go_neg, go_rdL_nil, go_rdL_cons, go_fzL_nil, go_fzL_cons, go_bi1, go_bi2, go_slc, go_tup, go_disp, go_fz, go_seqL, go_seqT, go_enumL, go_enumT, go_zipTT, go_zipLL, go_zipTL, go_zipLT, Nat.sub_self, go_sclS, go_scsS, go_listT, go_listL, go_new, gc_d, gc_ite, take_len, take_app, go_newDc, chkDc_s, modDc_s, go_keyS, go_keyI, go_starT, go_starL, List.set_cons_zero, List.set_cons_succ, List.map_cons, List.map_nil, List.cons_append, List.nil_append, List.replicate_succ, List.replicate_zero, List.length_cons, List.length_nil, Tgs.len, wipeR, List.getD_cons_zero, List.getD_cons_succ]
  refine rw_bind ((u_rule h hn up n).mono ?_)
  rintro w s1 ⟨⟨t, sc, rfl, ht, hs⟩, dr1⟩
  have g1 : s1[m]? = some (.lst (rs.map rqD)) := by rw [dr1.keep hm]; exact g
  have fin : ∀ {s2 : Sto}, Drw l s s2 → ∀ q : Tr × Int, RQ ns q → RWp (go (denSs (run tab (n + 4)) B__law_schemes_2 [some (.r l), some (.d (.list (ns.map .str))), some (.d (.bool up)), some (.r m), x4, some (.d (rqD q))]) s2) fun p s' => p.1 = .nx ∧ (∃ q' : Tr × Int, RQ ns q' ∧ p.2 = [some (.r l), some (.d (.list (ns.map .str))), some (.d (.bool up)), some (.r m), x4, some (.d (rqD q'))] ∧ ∃ s1, Drw l s s1 ∧ s' = s1.set m (.lst ((rs ++ [q']).map rqD))) := fun {s2} dr q hq => by
    refine (schemes_2 (dr.at hl) hn.1.1 hm hr (by rw [dr.keep hm]; exact g) hx hq _ _ x4 n).mono ?_
    rintro p s3 ⟨e, q', h', e2, s4, dr4, e3⟩
    exact ⟨e, q', h', e2, s4, dr.trans dr4, e3⟩
  have er : ruD t sc = rqD (t, sc) := rfl
  simp only [den_cons, den_nil, denS, denE, denA, denO, denL, denI, denT, denTs, denC, go_bind, go_pure, go_bad, bindR_ok, bindR_bad, bindR_bindR, bindR_ite, go_ite, go_ofS, go_rdD, go_fzD, go_asB, go_asI, go_slot, slot_s, go_slotF, slotF_s, go_noX, noR_ok, noR_ite, go_opD, go_cmpB, go_cmp, go_isi, go_neg, go_rdL_nil, go_rdL_cons, go_fzL_nil, go_fzL_cons, go_bi1, go_bi2, go_slc, go_tup, go_disp, go_fz, go_seqL, go_seqT, go_enumL, go_enumT, go_zipTT, go_zipLL, go_zipTL, go_zipLT, Nat.sub_self, go_sclS, go_scsS, go_listT, go_listL, go_new, gc_d, gc_ite, take_len, take_app, go_newDc, chkDc_s, modDc_s, go_keyS, go_keyI, go_starT, go_starL, List.set_cons_zero, List.set_cons_succ, List.map_cons, List.map_nil, List.cons_append, List.nil_append, List.replicate_succ, List.replicate_zero, List.length_cons, List.length_nil, Tgs.len, wipeR, List.getD_cons_zero, List.getD_cons_succ, Nat.zero_le, if_true, go_cmpLt _ g1, rq_ne hn.1.1 hr]
  by_cases z : rs = []
  · simp only [decide_eq_true z, Bool.not_true, Bool.false_eq_true, if_false, den_cons, den_nil, denS, denE, denA, denO, denL, denI, denT, denTs, denC, go_bind, go_pure, go_bad, bindR_ok, bindR_bad, bindR_bindR, bindR_ite, go_ite, go_ofS, go_rdD, go_fzD, go_asB, go_asI, go_slot, slot_s, go_slotF, slotF_s, go_noX, noR_ok, noR_ite, go_opD, go_cmpB, go_cmp, go_isi, go_neg, go_rdL_nil, go_rdL_cons, go_fzL_nil, go_fzL_cons, go_bi1, go_bi2, go_slc, go_tup, go_disp, go_fz, go_seqL, go_seqT, go_enumL, go_enumT, go_zipTT, go_zipLL, go_zipTL, go_zipLT, Nat.sub_self, go_sclS, go_scsS, go_listT, go_listL, go_new, gc_d, gc_ite, take_len, take_app, go_newDc, chkDc_s, modDc_s, go_keyS, go_keyI, go_starT, go_starL, List.set_cons_zero, List.set_cons_succ, List.map_cons, List.map_nil, List.cons_append, List.nil_append, List.replicate_succ, List.replicate_zero, List.length_cons, List.length_nil, Tgs.len, wipeR, List.getD_cons_zero, List.getD_cons_succ, er]
    exact fin dr1 (t, sc) ⟨ht, hs⟩
  · simp only [decide_eq_false z, Bool.not_false, if_true, den_cons, den_nil, denS, denE, denA, denO, denL, denI, denT, denTs, denC, go_bind, go_pure, go_bad, bindR_ok, bindR_bad, bindR_bindR, bindR_ite, go_ite, go_ofS, go_rdD, go_fzD, go_asB, go_asI, go_slot, slot_s, go_slotF, slotF_s, go_noX, noR_ok, noR_ite, go_opD, go_cmpB, go_cmp, go_isi, go_neg, go_rdL_nil, go_rdL_cons, go_fzL_nil, go_fzL_cons, go_bi1, go_bi2, go_slc, go_tup, go_disp, go_fz, go_seqL, go_seqT, go_enumL, go_enumT, go_zipTT, go_zipLL, go_zipTL, go_zipLT, Nat.sub_self, go_sclS, go_scsS, go_listT, go_listL, go_new, gc_d, gc_ite, take_len, take_app, go_newDc, chkDc_s, modDc_s, go_keyS, go_keyI, go_starT, go_starL, List.set_cons_zero, List.set_cons_succ, List.map_cons, List.map_nil, List.cons_append, List.nil_append, List.replicate_succ, List.replicate_zero, List.length_cons, List.length_nil, Tgs.len, wipeR, List.getD_cons_zero, List.getD_cons_succ]
    refine rw_bind ((u_take (dr1.at hl) (lim := 4) (by decide) (by decide) (n + 3)).mono ?_)
    rintro w s2 ⟨⟨k, rfl, hk⟩, dr2⟩
    have dr2 := dr1.trans dr2
    simp only [den_cons, den_nil, denS, denE, denA, denO, denL, denI, denT, denTs, denC, go_bind, go_pure, go_bad, bindR_ok, bindR_bad, bindR_bindR, bindR_ite, go_ite, go_ofS, go_rdD, go_fzD, go_asB, go_asI, go_slot, slot_s, go_slotF, slotF_s, go_noX, noR_ok, noR_ite, go_opD, go_cmpB, go_cmp, go_isi, go_neg, go_rdL_nil, go_rdL_cons, go_fzL_nil, go_fzL_cons, go_bi1, go_bi2, go_slc, go_tup, go_disp, go_fz, go_seqL, go_seqT, go_enumL, go_enumT, go_zipTT, go_zipLL, go_zipTL, go_zipLT, Nat.sub_self, go_sclS, go_scsS, go_listT, go_listL, go_new, gc_d, gc_ite, take_len, take_app, go_newDc, chkDc_s, modDc_s, go_keyS, go_keyI, go_starT, go_starL, List.set_cons_zero, List.set_cons_succ, List.map_cons, List.map_nil, List.cons_append, List.nil_append, List.replicate_succ, List.replicate_zero, List.length_cons, List.length_nil, Tgs.len, wipeR, List.getD_cons_zero, List.getD_cons_succ, cmp_eqI]
    by_cases zk : (k : Int) = 0
    · simp only [decide_eq_true zk, if_true, den_cons, den_nil, denS, denE, denA, denO, denL, denI, denT, denTs, denC, go_bind, go_pure, go_bad, bindR_ok, bindR_bad, bindR_bindR, bindR_ite, go_ite, go_ofS, go_rdD, go_fzD, go_asB, go_asI, go_slot, slot_s, go_slotF, slotF_s, go_noX, noR_ok, noR_ite, go_opD, go_cmpB, go_cmp, go_isi, go_neg, go_rdL_nil, go_rdL_cons, go_fzL_nil, go_fzL_cons, go_bi1, go_bi2, go_slc, go_tup, go_disp, go_fz, go_seqL, go_seqT, go_enumL, go_enumT, go_zipTT, go_zipLL, go_zipTL, go_zipLT, Nat.sub_self, go_sclS, go_scsS, go_listT, go_listL, go_new, gc_d, gc_ite, take_len, take_app, go_newDc, chkDc_s, modDc_s, go_keyS, go_keyI, go_starT, go_starL, List.set_cons_zero, List.set_cons_succ, List.map_cons, List.map_nil, List.cons_append, List.nil_append, List.replicate_succ, List.replicate_zero, List.length_cons, List.length_nil, Tgs.len, wipeR, List.getD_cons_zero, List.getD_cons_succ]
      refine rw_bind ((u_ofR (dr2.at hl) (Ne.symm hm) (xs := rs.map rqD) (by rw [dr2.keep hm]; exact g) (by simpa using z) (by rw [List.length_map]; omega) (n + 2)).mono ?_)
      rintro w s3 ⟨⟨d, hd, rfl⟩, dr3⟩
      obtain ⟨q, hq, rfl⟩ := List.mem_map.mp hd
      exact fin (dr2.trans dr3) q (hr q hq)
    · simp only [decide_eq_false zk, Bool.false_eq_true, if_false, den_cons, den_nil, denS, denE, denA, denO, denL, denI, denT, denTs, denC, go_bind, go_pure, go_bad, bindR_ok, bindR_bad, bindR_bindR, bindR_ite, go_ite, go_ofS, go_rdD, go_fzD, go_asB, go_asI, go_slot, slot_s, go_slotF, slotF_s, go_noX, noR_ok, noR_ite, go_opD, go_cmpB, go_cmp, go_isi, go_neg, go_rdL_nil, go_rdL_cons, go_fzL_nil, go_fzL_cons, go_bi1, go_bi2, go_slc, go_tup, go_disp, go_fz, go_seqL, go_seqT, go_enumL, go_enumT, go_zipTT, go_zipLL, go_zipTL, go_zipLT, Nat.sub_self, go_sclS, go_scsS, go_listT, go_listL, go_new, gc_d, gc_ite, take_len, take_app, go_newDc, chkDc_s, modDc_s, go_keyS, go_keyI, go_starT, go_starL, List.set_cons_zero, List.set_cons_succ, List.map_cons, List.map_nil, List.cons_append, List.nil_append, List.replicate_succ, List.replicate_zero, List.length_cons, List.length_nil, Tgs.len, wipeR, List.getD_cons_zero, List.getD_cons_succ, er]
      exact fin dr2 (t, sc) ⟨ht, hs⟩
theorem u_schemes {l : Nat} {s : Sto} (h : Wat l s) {ns : List Str} (hn : NmsU ns) (up : Bool) (n : Nat) : RWp (go (run tab (n + 5) F__law_schemes [.r l, .d (.list (ns.map .str)), .d (.bool up)]) s) fun w s' => (∃ rs : List (Tr × Int), w = .d (.tuple (rs.map rqD)) ∧ (∀ q ∈ rs, RQ ns q) ∧ 1 ≤ rs.length ∧ rs.length ≤ 4) ∧ Drw l s s' := by
  rw [go_run _ T__law_schemes (n + 4) _ _ ⟨rfl, by decide⟩, go_body]
  unfold D__law_schemes B__law_schemes
  have hl := h.lt
  simp only [den_cons, den_nil, denS, denE, denA, denO, denL, denI, denT, denTs, denC, go_bind, go_pure, go_bad, bindR_ok, bindR_bad, bindR_bindR, bindR_ite, go_ite, go_ofS, go_rdD, go_fzD, go_asB, go_asI, go_slot, slot_s, go_slotF, slotF_s, go_noX, noR_ok, noR_ite, go_opD, go_cmpB, go_cmp, go_isi, go_neg, go_rdL_nil, go_rdL_cons, go_fzL_nil, go_fzL_cons, go_bi1, go_bi2, go_slc, go_tup, go_disp, go_fz, go_seqL, go_seqT, go_enumL, go_enumT, go_zipTT, go_zipLL, go_zipTL, go_zipLT, Nat.sub_self, go_sclS, go_scsS, go_listT, go_listL, go_new, gc_d, gc_ite, take_len, take_app, go_newDc, chkDc_s, modDc_s, go_keyS, go_keyI, go_starT, go_starL, List.set_cons_zero, List.set_cons_succ, List.map_cons, List.map_nil, List.cons_append, List.nil_append, List.replicate_succ, List.replicate_zero, List.length_cons, List.length_nil, Tgs.len, wipeR, List.getD_cons_zero, List.getD_cons_succ, Nat.zero_le, if_true]
  refine rw_gc (rw_bind ((u_take (h.app [.lst []]) (lim := 4) (by decide) (by decide) (n + 3)).mono ?_))
  rintro w s1 ⟨⟨j, rfl, hj⟩, dr1⟩
  simp only [den_cons, den_nil, denS, denE, denA, denO, denL, denI, denT, denTs, denC, go_bind, go_pure, go_bad, bindR_ok, bindR_bad, bindR_bindR, bindR_ite, go_ite, go_ofS, go_rdD, go_fzD, go_asB, go_asI, go_slot, slot_s, go_slotF, slotF_s, go_noX, noR_ok, noR_ite, go_opD, go_cmpB, go_cmp, go_isi, go_neg, go_rdL_nil, go_rdL_cons, go_fzL_nil, go_fzL_cons, go_bi1, go_bi2, go_slc, go_tup, go_disp, go_fz, go_seqL, go_seqT, go_enumL, go_enumT, go_zipTT, go_zipLL, go_zipTL, go_zipLT, Nat.sub_self, go_sclS, go_scsS, go_listT, go_listL, go_new, gc_d, gc_ite, take_len, take_app, go_newDc, chkDc_s, modDc_s, go_keyS, go_keyI, go_starT, go_starL, List.set_cons_zero, List.set_cons_succ, List.map_cons, List.map_nil, List.cons_append, List.nil_append, List.replicate_succ, List.replicate_zero, List.length_cons, List.length_nil, Tgs.len, wipeR, List.getD_cons_zero, List.getD_cons_succ, add_1n', go_rngN (show 1 + j ≤ 1000 by omega)]
  obtain ⟨s2, dr2, rfl⟩ := dr1.app hl
  refine rw_bind (rw_forT (fun i : Nat => .int (i : Int)) (fun rem ρ s' => ∃ (rs : List (Tr × Int)) (x4 x5 : Option W), ρ = [some (.r l), some (.d (.list (ns.map .str))), some (.d (.bool up)), some (.r s.length), x4, x5] ∧ Dps l s s' ∧ s'[s.length]? = some (.lst (rs.map rqD)) ∧ (∀ q ∈ rs, RQ ns q) ∧ rs.length + rem.length = 1 + j) _ _ _ ?h0 ?hs ?hd)
  case h0 => exact ⟨[], _, _, rfl, (Dps.of dr2).app _, dr2.get _, (fun q hq => nomatch hq), by rw [List.length_range]; simp⟩
  case hs =>
    rintro i r ρ s' hi ⟨rs, x4, x5, rfl, dp, g, hr, e⟩
    rw [List.length_cons] at e
    simp only [den_cons, den_nil, denS, denE, denA, denO, denL, denI, denT, denTs, denC, go_bind, go_pure, go_bad, bindR_ok, bindR_bad, bindR_bindR, bindR_ite, go_ite, go_ofS, go_rdD, go_fzD, go_asB, go_asI, go_slot, slot_s, go_slotF, slotF_s, go_noX, noR_ok, noR_ite, go_opD, go_cmpB, go_cmp, go_isi, go_neg, go_rdL_nil, go_rdL_cons, go_fzL_nil, go_fzL_cons, go_bi1, go_bi2, go_slc, go_tup, go_disp, go_fz, go_seqL, go_seqT, go_enumL, go_enumT, go_zipTT, go_zipLL, go_zipTL, go_zipLT, Nat.sub_self, go_sclS, go_scsS, go_listT, go_listL, go_new, gc_d, gc_ite, take_len, take_app, go_newDc, chkDc_s, modDc_s, go_keyS, go_keyI, go_starT, go_starL, List.set_cons_zero, List.set_cons_succ, List.map_cons, List.map_nil, List.cons_append, List.nil_append, List.replicate_succ, List.replicate_zero, List.length_cons, List.length_nil, Tgs.len, wipeR, List.getD_cons_zero, List.getD_cons_succ]
    refine (schemes_1 (dp.at hl) hn (show l ≠ s.length by omega) hr g (by omega) up _ x5 n).mono ?_
    rintro ⟨fl, ρ⟩ s3 ⟨rfl, q, hq, rfl, s4, dr4, rfl⟩
    refine ⟨rs ++ [q], _, _, rfl, (dp.drw hl dr4).set (Nat.le_refl _) _, ?_, ?_, by rw [List.length_append, List.length_singleton]; omega⟩
    · rw [List.getElem?_set_self (by rw [dr4.len]; exact get_lt g)]
    · intro p hp
      rcases List.mem_append.mp hp with z | z
      · exact hr p z
      · rw [List.mem_singleton.mp z]; exact hq
  case hd =>
    rintro ρ s' ⟨rs, x4, x5, rfl, dp, g, hr, e⟩
    rw [List.length_nil, Nat.add_zero] at e
    unfold B__law_schemes_4
    simp only [den_cons, den_nil, denS, denE, denA, denO, denL, denI, denT, denTs, denC, go_bind, go_pure, go_bad, bindR_ok, bindR_bad, bindR_bindR, bindR_ite, go_ite, go_ofS, go_rdD, go_fzD, go_asB, go_asI, go_slot, slot_s, go_slotF, slotF_s, go_noX, noR_ok, noR_ite, go_opD, go_cmpB, go_cmp, go_isi, go_neg, go_rdL_nil, go_rdL_cons, go_fzL_nil, go_fzL_cons, go_bi1, go_bi2, go_slc, go_tup, go_disp, go_fz, go_seqL, go_seqT, go_enumL, go_enumT, go_zipTT, go_zipLL, go_zipTL, go_zipLT, Nat.sub_self, go_sclS, go_scsS, go_listT, go_listL, go_new, gc_d, gc_ite, take_len, take_app, go_newDc, chkDc_s, modDc_s, go_keyS, go_keyI, go_starT, go_starL, List.set_cons_zero, List.set_cons_succ, List.map_cons, List.map_nil, List.cons_append, List.nil_append, List.replicate_succ, List.replicate_zero, List.length_cons, List.length_nil, Tgs.len, wipeR, List.getD_cons_zero, List.getD_cons_succ, go_biC _ g, tup_L]
    exact ⟨⟨rs, rfl, hr, by omega, by omega⟩, dp.take⟩
end Gk
namespace Gk
open PySem PySem.Spec L2 Gd
theorem u_urn (is : List Int) (lap : Nat) (n : Nat) (st : Sto) : RWp (go (run tab (n + 1) F__law_urn [.s is, .d (.int (lap : Int))]) st) fun w s' => w = .r st.length ∧ ∃ v, Wl v ∧ s' = st ++ [.lst v] := by
  rw [go_run _ T__law_urn n _ _ ⟨rfl, by decide⟩, go_body]
  unfold D__law_urn B__law_urn
  have s1 : small 8111 = true := by decide
  have s2 : small 50021 = true := by decide
  have s3 : small 59 = true := by decide
  have s4 : small 30029 = true := by decide
  have s5 : small 13 = true := by decide
  have pw : binD .pow (.int 10) (.int 15) = some (.int 1000000000000000) := by kernel_rfl
  simp only [den_cons, den_nil, denS, denE, denA, denO, denL, denI, denT, denTs, denC, go_bind, go_pure, go_bad, bindR_ok, bindR_bad, bindR_bindR, bindR_ite, go_ite, go_ofS, go_rdD, go_fzD, go_asB, go_asI, go_slot, slot_s, go_slotF, slotF_s, go_noX, noR_ok, noR_ite, go_opD, go_cmpB, go_cmp, go_isi, go_neg, go_rdL_nil, go_rdL_cons, go_fzL_nil, go_fzL_cons, go_bi1, go_bi2, go_slc, go_tup, go_disp, go_fz, go_seqL, go_seqT, go_enumL, go_enumT, go_zipTT, go_zipLL, go_zipTL, go_zipLT, Nat.sub_self, go_sclS, go_scsS, go_listT, go_listL, go_new, gc_d, gc_ite, take_len, take_app, go_newDc, chkDc_s, modDc_s, go_keyS, go_keyI, go_starT, go_starL, List.set_cons_zero, List.set_cons_succ, List.map_cons, List.map_nil, List.cons_append, List.nil_append, List.replicate_succ, List.replicate_zero, List.length_cons, List.length_nil, Tgs.len, wipeR, List.getD_cons_zero, List.getD_cons_succ, mul_l s1, add_i]
  refine rw_gc (rw_bind (rw_forT (fun i : Int => .int i) (fun rem ρ s => ∃ (v : Int) (x : Option W), ρ = [some (.s is), some (.d (.int (lap : Int))), some (.d (.int v)), x, none] ∧ s = st) _ _ _ ⟨_, _, rfl, rfl⟩ ?hs ?hd))
  case hs =>
    rintro i r ρ s hi ⟨v, x, rfl, rfl⟩
    simp only [den_cons, den_nil, denS, denE, denA, denO, denL, denI, denT, denTs, denC, go_bind, go_pure, go_bad, bindR_ok, bindR_bad, bindR_bindR, bindR_ite, go_ite, go_ofS, go_rdD, go_fzD, go_asB, go_asI, go_slot, slot_s, go_slotF, slotF_s, go_noX, noR_ok, noR_ite, go_opD, go_cmpB, go_cmp, go_isi, go_neg, go_rdL_nil, go_rdL_cons, go_fzL_nil, go_fzL_cons, go_bi1, go_bi2, go_slc, go_tup, go_disp, go_fz, go_seqL, go_seqT, go_enumL, go_enumT, go_zipTT, go_zipLL, go_zipTL, go_zipLT, Nat.sub_self, go_sclS, go_scsS, go_listT, go_listL, go_new, gc_d, gc_ite, take_len, take_app, go_newDc, chkDc_s, modDc_s, go_keyS, go_keyI, go_starT, go_starL, List.set_cons_zero, List.set_cons_succ, List.map_cons, List.map_nil, List.cons_append, List.nil_append, List.replicate_succ, List.replicate_zero, List.length_cons, List.length_nil, Tgs.len, wipeR, List.getD_cons_zero, List.getD_cons_succ, mul_r _ s2, mul_r _ s5, int_i, add_i, mod_i _ (show (2147483477 : Int) ≠ 0 by decide), mod_i _ (show (2147483629 : Int) ≠ 0 by decide)]
    exact ⟨_, _, rfl, rfl⟩
  case hd =>
    rintro ρ s ⟨v, x, rfl, rfl⟩
    have fin : ∀ a b c : Int, 0 ≤ a → RWp (.ok (.r s.length) (s ++ [.lst [.int a, .int b, .int c]])) fun w s_1 => RWp (gcW s.length (.ok w s_1)) fun w s' => w = .r s.length ∧ ∃ v, Wl v ∧ s' = s ++ [.lst v] := fun a b c ha => by
      show RWp (gcW s.length (.ok (.r s.length) (s ++ [_]))) _
      rw [gc_r]
      exact ⟨rfl, _, ⟨a, b, c, rfl, ha⟩, rfl⟩
    have ge : ∀ i j : Int, cmpD .ge (.int i) (.int j) = some (decide (j ≤ i)) := fun _ _ => rfl
    have lt : ∀ i j : Int, cmpD .lt (.int i) (.int j) = some (decide (i < j)) := fun _ _ => rfl
    simp only [den_cons, den_nil, denS, denE, denA, denO, denL, denI, denT, denTs, denC, go_bind, go_pure, go_bad, bindR_ok, bindR_bad, bindR_bindR, bindR_ite, go_ite, go_ofS, go_rdD, go_fzD, go_asB, go_asI, go_slot, slot_s, go_slotF, slotF_s, go_noX, noR_ok, noR_ite, go_opD, go_cmpB, go_cmp, go_isi, go_neg, go_rdL_nil, go_rdL_cons, go_fzL_nil, go_fzL_cons, go_bi1, go_bi2, go_slc, go_tup, go_disp, go_fz, go_seqL, go_seqT, go_enumL, go_enumT, go_zipTT, go_zipLL, go_zipTL, go_zipLT, Nat.sub_self, go_sclS, go_scsS, go_listT, go_listL, go_new, gc_d, gc_ite, take_len, take_app, go_newDc, chkDc_s, modDc_s, go_keyS, go_keyI, go_starT, go_starL, List.set_cons_zero, List.set_cons_succ, List.map_cons, List.map_nil, List.cons_append, List.nil_append, List.replicate_succ, List.replicate_zero, List.length_cons, List.length_nil, Tgs.len, wipeR, List.getD_cons_zero, List.getD_cons_succ, lt]
    by_cases z : (lap : Int) < (is.length : Int)
    · have zn : lap < is.length := by omega
      simp only [decide_eq_true z, if_true, den_cons, den_nil, denS, denE, denA, denO, denL, denI, denT, denTs, denC, go_bind, go_pure, go_bad, bindR_ok, bindR_bad, bindR_bindR, bindR_ite, go_ite, go_ofS, go_rdD, go_fzD, go_asB, go_asI, go_slot, slot_s, go_slotF, slotF_s, go_noX, noR_ok, noR_ite, go_opD, go_cmpB, go_cmp, go_isi, go_neg, go_rdL_nil, go_rdL_cons, go_fzL_nil, go_fzL_cons, go_bi1, go_bi2, go_slc, go_tup, go_disp, go_fz, go_seqL, go_seqT, go_enumL, go_enumT, go_zipTT, go_zipLL, go_zipTL, go_zipLT, Nat.sub_self, go_sclS, go_scsS, go_listT, go_listL, go_new, gc_d, gc_ite, take_len, take_app, go_newDc, chkDc_s, modDc_s, go_keyS, go_keyI, go_starT, go_starL, List.set_cons_zero, List.set_cons_succ, List.map_cons, List.map_nil, List.cons_append, List.nil_append, List.replicate_succ, List.replicate_zero, List.length_cons, List.length_nil, Tgs.len, wipeR, List.getD_cons_zero, List.getD_cons_succ, go_sciS, ixN_nat, if_pos zn, Option.bind_some, List.getElem?_eq_getElem zn, int_i, mul_r _ s3, mul_r _ s4, add_i, mod_i _ (show (2147483477 : Int) ≠ 0 by decide), mod_i _ (show (2147483629 : Int) ≠ 0 by decide), pw, ge, lt, abs_nat]
      by_cases z1 : is[lap] < 0
      · simp only [decide_eq_true z1, if_true, den_cons, den_nil, denS, denE, denA, denO, denL, denI, denT, denTs, denC, go_bind, go_pure, go_bad, bindR_ok, bindR_bad, bindR_bindR, bindR_ite, go_ite, go_ofS, go_rdD, go_fzD, go_asB, go_asI, go_slot, slot_s, go_slotF, slotF_s, go_noX, noR_ok, noR_ite, go_opD, go_cmpB, go_cmp, go_isi, go_neg, go_rdL_nil, go_rdL_cons, go_fzL_nil, go_fzL_cons, go_bi1, go_bi2, go_slc, go_tup, go_disp, go_fz, go_seqL, go_seqT, go_enumL, go_enumT, go_zipTT, go_zipLL, go_zipTL, go_zipLT, Nat.sub_self, go_sclS, go_scsS, go_listT, go_listL, go_new, gc_d, gc_ite, take_len, take_app, go_newDc, chkDc_s, modDc_s, go_keyS, go_keyI, go_starT, go_starL, List.set_cons_zero, List.set_cons_succ, List.map_cons, List.map_nil, List.cons_append, List.nil_append, List.replicate_succ, List.replicate_zero, List.length_cons, List.length_nil, Tgs.len, wipeR, List.getD_cons_zero, List.getD_cons_succ, show (0 + 1 + 1 + 1 : Nat) ≤ SZ by decide, gc_r]
        exact fin _ _ _ (Int.natCast_nonneg _)
      · by_cases z2 : 1000000000000000 ≤ is[lap]
        · simp only [decide_eq_false z1, decide_eq_true z2, Bool.false_eq_true, if_false, if_true, den_cons, den_nil, denS, denE, denA, denO, denL, denI, denT, denTs, denC, go_bind, go_pure, go_bad, bindR_ok, bindR_bad, bindR_bindR, bindR_ite, go_ite, go_ofS, go_rdD, go_fzD, go_asB, go_asI, go_slot, slot_s, go_slotF, slotF_s, go_noX, noR_ok, noR_ite, go_opD, go_cmpB, go_cmp, go_isi, go_neg, go_rdL_nil, go_rdL_cons, go_fzL_nil, go_fzL_cons, go_bi1, go_bi2, go_slc, go_tup, go_disp, go_fz, go_seqL, go_seqT, go_enumL, go_enumT, go_zipTT, go_zipLL, go_zipTL, go_zipLT, Nat.sub_self, go_sclS, go_scsS, go_listT, go_listL, go_new, gc_d, gc_ite, take_len, take_app, go_newDc, chkDc_s, modDc_s, go_keyS, go_keyI, go_starT, go_starL, List.set_cons_zero, List.set_cons_succ, List.map_cons, List.map_nil, List.cons_append, List.nil_append, List.replicate_succ, List.replicate_zero, List.length_cons, List.length_nil, Tgs.len, wipeR, List.getD_cons_zero, List.getD_cons_succ, show (0 + 1 + 1 + 1 : Nat) ≤ SZ by decide, gc_r]
          exact fin _ _ _ (Int.natCast_nonneg _)
        · simp only [decide_eq_false z1, decide_eq_false z2, Bool.false_eq_true, if_false, if_true, den_cons, den_nil, denS, denE, denA, denO, denL, denI, denT, denTs, denC, go_bind, go_pure, go_bad, bindR_ok, bindR_bad, bindR_bindR, bindR_ite, go_ite, go_ofS, go_rdD, go_fzD, go_asB, go_asI, go_slot, slot_s, go_slotF, slotF_s, go_noX, noR_ok, noR_ite, go_opD, go_cmpB, go_cmp, go_isi, go_neg, go_rdL_nil, go_rdL_cons, go_fzL_nil, go_fzL_cons, go_bi1, go_bi2, go_slc, go_tup, go_disp, go_fz, go_seqL, go_seqT, go_enumL, go_enumT, go_zipTT, go_zipLL, go_zipTL, go_zipLT, Nat.sub_self, go_sclS, go_scsS, go_listT, go_listL, go_new, gc_d, gc_ite, take_len, take_app, go_newDc, chkDc_s, modDc_s, go_keyS, go_keyI, go_starT, go_starL, List.set_cons_zero, List.set_cons_succ, List.map_cons, List.map_nil, List.cons_append, List.nil_append, List.replicate_succ, List.replicate_zero, List.length_cons, List.length_nil, Tgs.len, wipeR, List.getD_cons_zero, List.getD_cons_succ, show (0 + 1 + 1 + 1 : Nat) ≤ SZ by decide, gc_r]
          exact fin _ _ _ (Int.le_refl _)
    · have c1 : decide ((0 : Int) < 0) = false := by decide
      have c2 : decide ((1000000000000000 : Int) ≤ 0) = false := by decide
      simp only [decide_eq_false z, Bool.false_eq_true, if_false, if_true, den_cons, den_nil, denS, denE, denA, denO, denL, denI, denT, denTs, denC, go_bind, go_pure, go_bad, bindR_ok, bindR_bad, bindR_bindR, bindR_ite, go_ite, go_ofS, go_rdD, go_fzD, go_asB, go_asI, go_slot, slot_s, go_slotF, slotF_s, go_noX, noR_ok, noR_ite, go_opD, go_cmpB, go_cmp, go_isi, go_neg, go_rdL_nil, go_rdL_cons, go_fzL_nil, go_fzL_cons, go_bi1, go_bi2, go_slc, go_tup, go_disp, go_fz, go_seqL, go_seqT, go_enumL, go_enumT, go_zipTT, go_zipLL, go_zipTL, go_zipLT, Nat.sub_self, go_sclS, go_scsS, go_listT, go_listL, go_new, gc_d, gc_ite, take_len, take_app, go_newDc, chkDc_s, modDc_s, go_keyS, go_keyI, go_starT, go_starL, List.set_cons_zero, List.set_cons_succ, List.map_cons, List.map_nil, List.cons_append, List.nil_append, List.replicate_succ, List.replicate_zero, List.length_cons, List.length_nil, Tgs.len, wipeR, List.getD_cons_zero, List.getD_cons_succ, int_i, mul_r _ s3, mul_r _ s4, add_i, mod_i _ (show (2147483477 : Int) ≠ 0 by decide), mod_i _ (show (2147483629 : Int) ≠ 0 by decide), pw, ge, lt, c1, c2, show (0 + 1 + 1 + 1 : Nat) ≤ SZ by decide, gc_r]
      exact fin _ _ _ (Int.le_refl _)
end Gk
namespace Gk
open PySem PySem.Spec L2 Gd
theorem go_setSr {l : List Str} {m : Nat} (h : l.length ≤ 1000) {s : Sto} (g : s[m]? = some (.lst (l.map .str))) : go (setM (.r m)) s = .ok ((setS l).map .str) s := by
  unfold setM
  simp only [go_bind, go_rdC g, bindR_ok, okOnce_strs h, if_true, go_pure, setS_eq]
noncomputable def allW (rs : List (Tr × Int)) : List Str := rs.flatMap fun q => setS q.1.works
theorem allW_in {ns : List Str} {rs : List (Tr × Int)} (hr : ∀ q ∈ rs, RQ ns q) : ∀ x ∈ allW rs, x ∈ ns := fun x hx => by
  obtain ⟨q, hq, hx⟩ := List.mem_flatMap.mp hx
  exact q.1.works_in (hr q hq).1.1 x (setS_mem.mp hx)
theorem allW_len {ns : List Str} (hn : Ns ns) : ∀ l : List (Tr × Int), (∀ q ∈ l, RQ ns q) → (allW l).length ≤ l.length * 9 := by
  intro l
  induction l with
  | nil => intro _; exact Nat.zero_le _
  | cons q l ih =>
    intro h
    have a := setS_le hn (h q List.mem_cons_self).1.1
    have b := ih fun p hp => h p (List.mem_cons_of_mem _ hp)
    unfold allW at b ⊢
    rw [List.flatMap_cons, List.length_append, List.length_cons]
    omega
theorem allW_le {ns : List Str} (hn : Ns ns) {rs : List (Tr × Int)} (hr : ∀ q ∈ rs, RQ ns q) : (setS (allW rs)).length ≤ 9 :=
  Nat.le_trans (nodup_le (lt_nodup (setS_pw _)) fun x hx => allW_in hr x (setS_mem.mp hx)) hn.2
theorem s_works_of_all {ns : List Str} (hn : Ns ns) {rs : List (Tr × Int)} (hr : ∀ q ∈ rs, RQ ns q) (hl : rs.length ≤ 4) (n : Nat) (st : Sto) : go (run tab (n + 7) F_works_of_all [.d (.tuple (rs.map rqD))]) st = .ok (.d (.tuple ((setS (allW rs)).map .str))) st := by
  rw [go_run _ T_works_of_all (n + 6) _ _ ⟨rfl, by decide⟩, go_body]
  unfold D_works_of_all B_works_of_all
  have wi : ∀ q ∈ rs, ∀ st, go (run tab (n + 6) F_works_in [.d q.1.d]) st = .ok (.d (.tuple ((setS q.1.works).map .str))) st := fun q hq st => s_works_in hn q.1 (Nat.le_refl 4) (hr q hq).1.1 (hr q hq).1.2 n st
  have bd := allW_len hn rs hr
  simp only [den_cons, den_nil, denS, denE, denA, denO, denL, denI, denT, denTs, denC, go_bind, go_pure, go_bad, bindR_ok, bindR_bad, bindR_bindR, bindR_ite, go_ite, go_ofS, go_rdD, go_fzD, go_asB, go_asI, go_slot, slot_s, go_slotF, slotF_s, go_noX, noR_ok, noR_ite, go_opD, go_cmpB, go_cmp, go_isi, go_neg, go_rdL_nil, go_rdL_cons, go_fzL_nil, go_fzL_cons, go_bi1, go_bi2, go_slc, go_tup, go_disp, go_fz, go_seqL, go_seqT, go_enumL, go_enumT, go_zipTT, go_zipLL, go_zipTL, go_zipLT, Nat.sub_self, go_sclS, go_scsS, go_listT, go_listL, go_new, gc_d, gc_ite, take_len, take_app, go_newDc, chkDc_s, modDc_s, go_keyS, go_keyI, go_starT, go_starL, List.set_cons_zero, List.set_cons_succ, List.map_cons, List.map_nil, List.cons_append, List.nil_append, List.replicate_succ, List.replicate_zero, List.length_cons, List.length_nil, Tgs.len, wipeR, List.getD_cons_zero, List.getD_cons_succ, Nat.zero_le, if_true]
  refine rw_to_eq (rw_gc (rw_bind (rw_forT rqD (fun rem ρ s => ∃ (acc : List Str) (x : Option W), ρ = [some (.d (.tuple (rs.map rqD))), some (.r st.length), x] ∧ s = st ++ [.lst (acc.map .str)] ∧ acc ++ allW rem = allW rs) _ _ _ ⟨[], _, rfl, rfl, rfl⟩ ?hs ?hd)))
  case hs =>
    rintro q r ρ s hq ⟨acc, x, rfl, rfl, e⟩
    have e2 := congrArg List.length e
    have e3 : allW (q :: r) = setS q.1.works ++ allW r := by unfold allW; rw [List.flatMap_cons]
    rw [e3, List.length_append, List.length_append] at e2
    have i0 : idxD (rqD q) (.int 0) = some q.1.d := idx_0 _ _
    have exT : extK (.tuple ((setS q.1.works).map .str)) (acc.map .str) = some (.d .none, (acc ++ setS q.1.works).map .str) := by
      rw [ext_okT (by simp only [List.length_map]; unfold SZ; omega), List.map_append]
    simp only [den_cons, den_nil, denS, denE, denA, denO, denL, denI, denT, denTs, denC, go_bind, go_pure, go_bad, bindR_ok, bindR_bad, bindR_bindR, bindR_ite, go_ite, go_ofS, go_rdD, go_fzD, go_asB, go_asI, go_slot, slot_s, go_slotF, slotF_s, go_noX, noR_ok, noR_ite, go_opD, go_cmpB, go_cmp, go_isi, go_neg, go_rdL_nil, go_rdL_cons, go_fzL_nil, go_fzL_cons, go_bi1, go_bi2, go_slc, go_tup, go_disp, go_fz, go_seqL, go_seqT, go_enumL, go_enumT, go_zipTT, go_zipLL, go_zipTL, go_zipLT, Nat.sub_self, go_sclS, go_scsS, go_listT, go_listL, go_new, gc_d, gc_ite, take_len, take_app, go_newDc, chkDc_s, modDc_s, go_keyS, go_keyI, go_starT, go_starL, List.set_cons_zero, List.set_cons_succ, List.map_cons, List.map_nil, List.cons_append, List.nil_append, List.replicate_succ, List.replicate_zero, List.length_cons, List.length_nil, Tgs.len, wipeR, List.getD_cons_zero, List.getD_cons_succ, chkL_s, go_chk1, i0, wi q hq, modL_s, go_mod1, exT, set_last]
    exact ⟨acc ++ setS q.1.works, _, rfl, rfl, by rw [← e, e3, List.append_assoc]⟩
  case hd =>
    rintro ρ s ⟨acc, x, rfl, rfl, e⟩
    rw [show allW [] = [] from rfl, List.append_nil] at e
    subst e
    simp only [den_cons, den_nil, denS, denE, denA, denO, denL, denI, denT, denTs, denC, go_bind, go_pure, go_bad, bindR_ok, bindR_bad, bindR_bindR, bindR_ite, go_ite, go_ofS, go_rdD, go_fzD, go_asB, go_asI, go_slot, slot_s, go_slotF, slotF_s, go_noX, noR_ok, noR_ite, go_opD, go_cmpB, go_cmp, go_isi, go_neg, go_rdL_nil, go_rdL_cons, go_fzL_nil, go_fzL_cons, go_bi1, go_bi2, go_slc, go_tup, go_disp, go_fz, go_seqL, go_seqT, go_enumL, go_enumT, go_zipTT, go_zipLL, go_zipTL, go_zipLT, Nat.sub_self, go_sclS, go_scsS, go_listT, go_listL, go_new, gc_d, gc_ite, take_len, take_app, go_newDc, chkDc_s, modDc_s, go_keyS, go_keyI, go_starT, go_starL, List.set_cons_zero, List.set_cons_succ, List.map_cons, List.map_nil, List.cons_append, List.nil_append, List.replicate_succ, List.replicate_zero, List.length_cons, List.length_nil, Tgs.len, wipeR, List.getD_cons_zero, List.getD_cons_succ, go_setSr (l := allW rs) (by omega) (get_last st _), tup_L]
    exact ⟨rfl, take_app st _⟩
theorem s_check_schemes {ns : List Str} (hn : Ns ns) {rs : List (Tr × Int)} (hr : ∀ q ∈ rs, RQ ns q) (h1 : 1 ≤ rs.length) (hl : rs.length ≤ 4) (n : Nat) (st : Sto) : go (run tab (n + 16) F_check_schemes [.d (.tuple (rs.map rqD))]) st = .ok (.d .none) st := by
  rw [go_run _ T_check_schemes (n + 15) _ _ ⟨rfl, by decide⟩, go_body]
  unfold D_check_schemes B_check_schemes
  have c1 : cmpD .le (.int 1) (.int ((rs.length : Nat) : Int)) = some true := by
    show some (decide ((1 : Int) ≤ (rs.length : Int))) = _
    rw [decide_eq_true (by omega)]
  have c2 : cmpD .le (.int ((rs.length : Nat) : Int)) (.int 4) = some true := by
    show some (decide ((rs.length : Int) ≤ 4)) = _
    rw [decide_eq_true (by omega)]
  have wl := allW_le hn hr
  have c3 : cmpD .gt (.int (((setS (allW rs)).length : Nat) : Int)) (.int 9) = some false := by
    show some (decide ((9 : Int) < ((setS (allW rs)).length : Int))) = _
    rw [decide_eq_false (by omega)]
  have sw : ∀ st, go (run tab (n + 15) F_works_of_all [.d (.tuple (rs.map rqD))]) st = .ok (.d (.tuple ((setS (allW rs)).map .str))) st := fun st => s_works_of_all hn hr hl (n + 8) st
  simp only [den_cons, den_nil, denS, denE, denA, denO, denL, denI, denT, denTs, denC, go_bind, go_pure, go_bad, bindR_ok, bindR_bad, bindR_bindR, bindR_ite, go_ite, go_ofS, go_rdD, go_fzD, go_asB, go_asI, go_slot, slot_s, go_slotF, slotF_s, go_noX, noR_ok, noR_ite, go_opD, go_cmpB, go_cmp, go_isi, go_neg, go_rdL_nil, go_rdL_cons, go_fzL_nil, go_fzL_cons, go_bi1, go_bi2, go_slc, go_tup, go_disp, go_fz, go_seqL, go_seqT, go_enumL, go_enumT, go_zipTT, go_zipLL, go_zipTL, go_zipLT, Nat.sub_self, go_sclS, go_scsS, go_listT, go_listL, go_new, gc_d, gc_ite, take_len, take_app, go_newDc, chkDc_s, modDc_s, go_keyS, go_keyI, go_starT, go_starL, List.set_cons_zero, List.set_cons_succ, List.map_cons, List.map_nil, List.cons_append, List.nil_append, List.replicate_succ, List.replicate_zero, List.length_cons, List.length_nil, Tgs.len, wipeR, List.getD_cons_zero, List.getD_cons_succ, isiD, len_T, List.length_map, c1, c2, Bool.not_true, Bool.false_eq_true, if_false, if_true]
  rw [go_comp_of rqD (fun _ => .bool true) rs ?h ?l]
  case h =>
    intro q hq
    have rf : ∀ st, go (run tab (n + 15) F_is_rule_form [.d (rqD q)]) st = .ok (.d (.bool true)) st := fun st => s_rule_form hn (hr q hq).1 (hr q hq).2 n st
    simp only [den_cons, den_nil, denS, denE, denA, denO, denL, denI, denT, denTs, denC, go_bind, go_pure, go_bad, bindR_ok, bindR_bad, bindR_bindR, bindR_ite, go_ite, go_ofS, go_rdD, go_fzD, go_asB, go_asI, go_slot, slot_s, go_slotF, slotF_s, go_noX, noR_ok, noR_ite, go_opD, go_cmpB, go_cmp, go_isi, go_neg, go_rdL_nil, go_rdL_cons, go_fzL_nil, go_fzL_cons, go_bi1, go_bi2, go_slc, go_tup, go_disp, go_fz, go_seqL, go_seqT, go_enumL, go_enumT, go_zipTT, go_zipLL, go_zipTL, go_zipLT, Nat.sub_self, go_sclS, go_scsS, go_listT, go_listL, go_new, gc_d, gc_ite, take_len, take_app, go_newDc, chkDc_s, modDc_s, go_keyS, go_keyI, go_starT, go_starL, List.set_cons_zero, List.set_cons_succ, List.map_cons, List.map_nil, List.cons_append, List.nil_append, List.replicate_succ, List.replicate_zero, List.length_cons, List.length_nil, Tgs.len, wipeR, List.getD_cons_zero, List.getD_cons_succ, rf, if_true]
  case l => unfold SZ; omega
  simp only [den_cons, den_nil, denS, denE, denA, denO, denL, denI, denT, denTs, denC, go_bind, go_pure, go_bad, bindR_ok, bindR_bad, bindR_bindR, bindR_ite, go_ite, go_ofS, go_rdD, go_fzD, go_asB, go_asI, go_slot, slot_s, go_slotF, slotF_s, go_noX, noR_ok, noR_ite, go_opD, go_cmpB, go_cmp, go_isi, go_neg, go_rdL_nil, go_rdL_cons, go_fzL_nil, go_fzL_cons, go_bi1, go_bi2, go_slc, go_tup, go_disp, go_fz, go_seqL, go_seqT, go_enumL, go_enumT, go_zipTT, go_zipLL, go_zipTL, go_zipLT, Nat.sub_self, go_sclS, go_scsS, go_listT, go_listL, go_new, gc_d, gc_ite, take_len, take_app, go_newDc, chkDc_s, modDc_s, go_keyS, go_keyI, go_starT, go_starL, List.set_cons_zero, List.set_cons_succ, List.map_cons, List.map_nil, List.cons_append, List.nil_append, List.replicate_succ, List.replicate_zero, List.length_cons, List.length_nil, Tgs.len, wipeR, List.getD_cons_zero, List.getD_cons_succ, all_true, Bool.not_true, Bool.false_eq_true, if_false, sw, len_T, List.length_map, c3]
def fqD (q : Int × Int) : PyData := frD q.1 q.2
def stepB (l : List (Int × Int)) (f : Nat) (p : (Int × Int) × Nat) : Nat := if (l.getD f (0, 1)).1 * p.1.2 < p.1.1 * (l.getD f (0, 1)).2 then p.2 else f
def bestN (l : List (Int × Int)) : Nat := l.zipIdx.foldl (stepB l) 0
theorem enum_mapG {β : Type} (f : β → PyData) (xs : List β) : enumD (xs.map f) = xs.zipIdx.map fun p => .tuple [.int (p.2 : Int), f p.1] := by
  unfold enumD
  rw [List.zipIdx_map, List.map_map]
  rfl
theorem zip_at {β : Type} {xs : List β} {p : β × Nat} (h : p ∈ xs.zipIdx) : xs[p.2]? = some p.1 := List.mem_zipIdx_iff_getElem?.mp h
theorem stepB_lt {l : List (Int × Int)} {f : Nat} (hf : f < l.length) {p : (Int × Int) × Nat} (hp : p.2 < l.length) : stepB l f p < l.length := by
  unfold stepB
  split
  · exact hp
  · exact hf
theorem foldB_lt {l : List (Int × Int)} : ∀ (ps : List ((Int × Int) × Nat)) (f : Nat), f < l.length → (∀ p ∈ ps, p.2 < l.length) → ps.foldl (stepB l) f < l.length
  | [], f, hf, _ => hf
  | p :: ps, f, hf, hp => by
    rw [List.foldl_cons]
    exact foldB_lt ps _ (stepB_lt hf (hp p List.mem_cons_self)) fun q hq => hp q (List.mem_cons_of_mem _ hq)
theorem zipIx_lt {β : Type} {xs : List β} {p : β × Nat} (h : p ∈ xs.zipIdx) : p.2 < xs.length := (List.getElem?_eq_some_iff.mp (zip_at h)).1
theorem bestN_lt {l : List (Int × Int)} (h : l ≠ []) : bestN l < l.length := foldB_lt _ _ (List.length_pos_iff.mpr h) fun p hp => zipIx_lt hp
theorem fdiv_dvd {g v : Int} (hg : g ≠ 0) (hd : g ∣ v) : v = g * v.fdiv g := by
  obtain ⟨k, rfl⟩ := hd
  rw [Int.mul_fdiv_cancel_left _ hg]
theorem fr_parts {v s : Int} (h : 1 ≤ s) : ∃ g : Int, 0 < g ∧ v = g * v.fdiv (Nat.gcd v.natAbs s.natAbs : Nat) ∧ s = g * s.fdiv (Nat.gcd v.natAbs s.natAbs : Nat) := by
  have g1 : 0 < Nat.gcd v.natAbs s.natAbs := Nat.gcd_pos_of_pos_right _ (by omega)
  exact ⟨(Nat.gcd v.natAbs s.natAbs : Nat), by omega, fdiv_dvd (by omega) (Int.ofNat_dvd_left.mpr (Nat.gcd_dvd_left _ _)), fdiv_dvd (by omega) (Int.ofNat_dvd_left.mpr (Nat.gcd_dvd_right _ _))⟩
theorem fr_lt {q p : Int × Int} (hq : 1 ≤ q.2) (hp : 1 ≤ p.2) : p.1.fdiv (Nat.gcd p.1.natAbs p.2.natAbs : Nat) * q.2.fdiv (Nat.gcd q.1.natAbs q.2.natAbs : Nat) < q.1.fdiv (Nat.gcd q.1.natAbs q.2.natAbs : Nat) * p.2.fdiv (Nat.gcd p.1.natAbs p.2.natAbs : Nat) ↔ p.1 * q.2 < q.1 * p.2 := by
  obtain ⟨g, hg, e1, e2⟩ := fr_parts (v := q.1) hq
  obtain ⟨k, hk, e3, e4⟩ := fr_parts (v := p.1) hp
  generalize q.1.fdiv (Nat.gcd q.1.natAbs q.2.natAbs : Nat) = a at *
  generalize q.2.fdiv (Nat.gcd q.1.natAbs q.2.natAbs : Nat) = b at *
  generalize p.1.fdiv (Nat.gcd p.1.natAbs p.2.natAbs : Nat) = c at *
  generalize p.2.fdiv (Nat.gcd p.1.natAbs p.2.natAbs : Nat) = d at *
  rw [e1, e2, e3, e4]
  have r1 : k * c * (g * b) = (g * k) * (c * b) := by ac_rfl
  have r2 : g * a * (k * d) = (g * k) * (a * d) := by ac_rfl
  rw [r1, r2]
  exact (Int.mul_lt_mul_left (Int.mul_pos hg hk)).symm
theorem fr_sm {q : Int × Int} (h : Scl q.2) : small (q.2.fdiv (Nat.gcd q.1.natAbs q.2.natAbs : Nat)) = true := by
  obtain ⟨g, hg, e1, e2⟩ := fr_parts (v := q.1) h.1
  generalize q.2.fdiv (Nat.gcd q.1.natAbs q.2.natAbs : Nat) = b at *
  have h1 := h.1
  have h2 := h.2
  have b0 : 0 < b := Int.lt_of_mul_lt_mul_left (a := g) (by rw [Int.mul_zero, ← e2]; omega) (by omega)
  have b1 : b ≤ q.2 := by
    have := Int.mul_le_mul_of_nonneg_right (show 1 ≤ g by omega) (show 0 ≤ b by omega)
    rw [Int.one_mul, ← e2] at this
    exact this
  exact sm_of (by omega) (by omega)
theorem s_is_better {q p : Int × Int} (hq : Scl q.2) (hp : Scl p.2) (n : Nat) (st : Sto) : go (run tab (n + 1) F_is_better [.d (fqD q), .d (fqD p)]) st = .ok (.d (.bool (decide (p.1 * q.2 < q.1 * p.2)))) st := by
  rw [go_run _ T_is_better n _ _ ⟨rfl, by decide⟩, go_body]
  unfold D_is_better B_is_better fqD frD
  simp only [den_cons, den_nil, denS, denE, denA, denO, denL, denI, denT, denTs, denC, go_bind, go_pure, go_bad, bindR_ok, bindR_bad, bindR_bindR, bindR_ite, go_ite, go_ofS, go_rdD, go_fzD, go_asB, go_asI, go_slot, slot_s, go_slotF, slotF_s, go_noX, noR_ok, noR_ite, go_opD, go_cmpB, go_cmp, go_isi, go_neg, go_rdL_nil, go_rdL_cons, go_fzL_nil, go_fzL_cons, go_bi1, go_bi2, go_slc, go_tup, go_disp, go_fz, go_seqL, go_seqT, go_enumL, go_enumT, go_zipTT, go_zipLL, go_zipTL, go_zipLT, Nat.sub_self, go_sclS, go_scsS, go_listT, go_listL, go_new, gc_d, gc_ite, take_len, take_app, go_newDc, chkDc_s, modDc_s, go_keyS, go_keyI, go_starT, go_starL, List.set_cons_zero, List.set_cons_succ, List.map_cons, List.map_nil, List.cons_append, List.nil_append, List.replicate_succ, List.replicate_zero, List.length_cons, List.length_nil, Tgs.len, wipeR, List.getD_cons_zero, List.getD_cons_succ, idx_0, idx_1, mul_r _ (fr_sm hp), mul_r _ (fr_sm hq), cmp_gt, fr_lt hq.1 hp.1]
theorem getD_at {β : Type} {xs : List β} {k : Nat} {d x : β} (h : xs[k]? = some x) : xs.getD k d = x := by
  rw [List.getD_eq_getElem?_getD, h]; rfl
theorem at_lt {β : Type} {xs : List β} {k : Nat} (d : β) (h : k < xs.length) : xs[k]? = some (xs.getD k d) := by
  rw [List.getD_eq_getElem?_getD, List.getElem?_eq_getElem h]; rfl
theorem s_best_at {l : List (Int × Int)} (hl : ∀ q ∈ l, Scl q.2) (h : l ≠ []) (n : Nat) (st : Sto) : go (run tab (n + 2) F_best_at [.d (.list (l.map fqD))]) st = .ok (.d (.int (bestN l : Nat))) st := by
  rw [go_run _ T_best_at (n + 1) _ _ ⟨rfl, by decide⟩, go_body]
  unfold D_best_at B_best_at
  simp only [den_cons, den_nil, denS, denE, denA, denO, denL, denI, denT, denTs, denC, go_bind, go_pure, go_bad, bindR_ok, bindR_bad, bindR_bindR, bindR_ite, go_ite, go_ofS, go_rdD, go_fzD, go_asB, go_asI, go_slot, slot_s, go_slotF, slotF_s, go_noX, noR_ok, noR_ite, go_opD, go_cmpB, go_cmp, go_isi, go_neg, go_rdL_nil, go_rdL_cons, go_fzL_nil, go_fzL_cons, go_bi1, go_bi2, go_slc, go_tup, go_disp, go_fz, go_seqL, go_seqT, go_enumL, go_enumT, go_zipTT, go_zipLL, go_zipTL, go_zipLT, Nat.sub_self, go_sclS, go_scsS, go_listT, go_listL, go_new, gc_d, gc_ite, take_len, take_app, go_newDc, chkDc_s, modDc_s, go_keyS, go_keyI, go_starT, go_starL, List.set_cons_zero, List.set_cons_succ, List.map_cons, List.map_nil, List.cons_append, List.nil_append, List.replicate_succ, List.replicate_zero, List.length_cons, List.length_nil, Tgs.len, wipeR, List.getD_cons_zero, List.getD_cons_succ, enum_mapG]
  refine rw_to_eq (rw_gc (rw_bind (rw_forT (fun p : (Int × Int) × Nat => .tuple [.int (p.2 : Int), fqD p.1]) (fun rem ρ s => ∃ (f : Nat) (x y : Option W), ρ = [some (.d (.list (l.map fqD))), some (.d (.int (f : Int))), x, y] ∧ s = st ∧ f < l.length ∧ rem.foldl (stepB l) f = bestN l) _ _ _ ⟨0, _, _, rfl, rfl, List.length_pos_iff.mpr h, rfl⟩ ?hs ?hd)))
  case hs =>
    rintro p r ρ s hp ⟨f, x, y, rfl, rfl, hf, e⟩
    have ef := at_lt (0, 1) hf
    have i1 : idxD (.list (l.map fqD)) (.int (f : Int)) = some (fqD (l.getD f (0, 1))) := idxL_at _ _ (by rw [List.getElem?_map, ef]; rfl)
    have pl := zipIx_lt hp
    have b := s_is_better (q := p.1) (p := l.getD f (0, 1)) (hl _ (List.mem_of_getElem? (zip_at hp))) (hl _ (List.mem_of_getElem? ef))
    rw [List.foldl_cons] at e
    simp only [den_cons, den_nil, denS, denE, denA, denO, denL, denI, denT, denTs, denC, go_bind, go_pure, go_bad, bindR_ok, bindR_bad, bindR_bindR, bindR_ite, go_ite, go_ofS, go_rdD, go_fzD, go_asB, go_asI, go_slot, slot_s, go_slotF, slotF_s, go_noX, noR_ok, noR_ite, go_opD, go_cmpB, go_cmp, go_isi, go_neg, go_rdL_nil, go_rdL_cons, go_fzL_nil, go_fzL_cons, go_bi1, go_bi2, go_slc, go_tup, go_disp, go_fz, go_seqL, go_seqT, go_enumL, go_enumT, go_zipTT, go_zipLL, go_zipTL, go_zipLT, Nat.sub_self, go_sclS, go_scsS, go_listT, go_listL, go_new, gc_d, gc_ite, take_len, take_app, go_newDc, chkDc_s, modDc_s, go_keyS, go_keyI, go_starT, go_starL, List.set_cons_zero, List.set_cons_succ, List.map_cons, List.map_nil, List.cons_append, List.nil_append, List.replicate_succ, List.replicate_zero, List.length_cons, List.length_nil, Tgs.len, wipeR, List.getD_cons_zero, List.getD_cons_succ, i1, b]
    by_cases z : (l.getD f (0, 1)).1 * p.1.2 < p.1.1 * (l.getD f (0, 1)).2
    · simp only [decide_eq_true z, if_true, den_cons, den_nil, denS, denE, denA, denO, denL, denI, denT, denTs, denC, go_bind, go_pure, go_bad, bindR_ok, bindR_bad, bindR_bindR, bindR_ite, go_ite, go_ofS, go_rdD, go_fzD, go_asB, go_asI, go_slot, slot_s, go_slotF, slotF_s, go_noX, noR_ok, noR_ite, go_opD, go_cmpB, go_cmp, go_isi, go_neg, go_rdL_nil, go_rdL_cons, go_fzL_nil, go_fzL_cons, go_bi1, go_bi2, go_slc, go_tup, go_disp, go_fz, go_seqL, go_seqT, go_enumL, go_enumT, go_zipTT, go_zipLL, go_zipTL, go_zipLT, Nat.sub_self, go_sclS, go_scsS, go_listT, go_listL, go_new, gc_d, gc_ite, take_len, take_app, go_newDc, chkDc_s, modDc_s, go_keyS, go_keyI, go_starT, go_starL, List.set_cons_zero, List.set_cons_succ, List.map_cons, List.map_nil, List.cons_append, List.nil_append, List.replicate_succ, List.replicate_zero, List.length_cons, List.length_nil, Tgs.len, wipeR, List.getD_cons_zero, List.getD_cons_succ]
      have : stepB l f p = p.2 := if_pos z
      exact ⟨p.2, _, _, rfl, rfl, pl, by rw [← e, this]⟩
    · simp only [decide_eq_false z, Bool.false_eq_true, if_false, den_cons, den_nil, denS, denE, denA, denO, denL, denI, denT, denTs, denC, go_bind, go_pure, go_bad, bindR_ok, bindR_bad, bindR_bindR, bindR_ite, go_ite, go_ofS, go_rdD, go_fzD, go_asB, go_asI, go_slot, slot_s, go_slotF, slotF_s, go_noX, noR_ok, noR_ite, go_opD, go_cmpB, go_cmp, go_isi, go_neg, go_rdL_nil, go_rdL_cons, go_fzL_nil, go_fzL_cons, go_bi1, go_bi2, go_slc, go_tup, go_disp, go_fz, go_seqL, go_seqT, go_enumL, go_enumT, go_zipTT, go_zipLL, go_zipTL, go_zipLT, Nat.sub_self, go_sclS, go_scsS, go_listT, go_listL, go_new, gc_d, gc_ite, take_len, take_app, go_newDc, chkDc_s, modDc_s, go_keyS, go_keyI, go_starT, go_starL, List.set_cons_zero, List.set_cons_succ, List.map_cons, List.map_nil, List.cons_append, List.nil_append, List.replicate_succ, List.replicate_zero, List.length_cons, List.length_nil, Tgs.len, wipeR, List.getD_cons_zero, List.getD_cons_succ]
      have : stepB l f p = f := if_neg z
      exact ⟨f, _, _, rfl, rfl, hf, by rw [← e, this]⟩
  case hd =>
    rintro ρ s ⟨f, x, y, rfl, rfl, hf, e⟩
    simp only [List.foldl_nil] at e
    subst e
    simp only [den_cons, den_nil, denS, denE, denA, denO, denL, denI, denT, denTs, denC, go_bind, go_pure, go_bad, bindR_ok, bindR_bad, bindR_bindR, bindR_ite, go_ite, go_ofS, go_rdD, go_fzD, go_asB, go_asI, go_slot, slot_s, go_slotF, slotF_s, go_noX, noR_ok, noR_ite, go_opD, go_cmpB, go_cmp, go_isi, go_neg, go_rdL_nil, go_rdL_cons, go_fzL_nil, go_fzL_cons, go_bi1, go_bi2, go_slc, go_tup, go_disp, go_fz, go_seqL, go_seqT, go_enumL, go_enumT, go_zipTT, go_zipLL, go_zipTL, go_zipLT, Nat.sub_self, go_sclS, go_scsS, go_listT, go_listL, go_new, gc_d, gc_ite, take_len, take_app, go_newDc, chkDc_s, modDc_s, go_keyS, go_keyI, go_starT, go_starL, List.set_cons_zero, List.set_cons_succ, List.map_cons, List.map_nil, List.cons_append, List.nil_append, List.replicate_succ, List.replicate_zero, List.length_cons, List.length_nil, Tgs.len, wipeR, List.getD_cons_zero, List.getD_cons_succ]
    exact ⟨rfl, List.take_length⟩
end Gk
namespace Gk
open PySem PySem.Spec L2 Gd
def vals (f : Str → Int) (rs : List (Tr × Int)) : List (Int × Int) := rs.map fun q => (q.1.val f, q.2)
def Scd (ns : List Str) (rs : List (Tr × Int)) (ps : List (Str × Int)) : Prop := Ns ns ∧ (∀ q ∈ rs, RQ ns q) ∧ Mks ps ∧ ∀ x ∈ ns, x ∈ ps.map (·.1)
theorem vals_scl {ns : List Str} {rs : List (Tr × Int)} {ps : List (Str × Int)} (h : Scd ns rs ps) (f : Str → Int) : ∀ q ∈ vals f rs, Scl q.2 := fun q hq => by
  obtain ⟨r, hr, rfl⟩ := List.mem_map.mp hq
  exact (h.2.1 r hr).2
theorem s_grades_by {ns : List Str} {rs : List (Tr × Int)} {ps : List (Str × Int)} (h : Scd ns rs ps) (hl : rs.length ≤ 4) (n : Nat) (st : Sto) : go (run tab (n + 5) F_grades_by [.d (.tuple (rs.map rqD)), .d (.tuple (ps.map prD))]) st = .ok (.d (.list ((vals (scr ps) rs).map fqD))) st := by
  rw [go_run _ T_grades_by (n + 4) _ _ ⟨rfl, by decide⟩, go_body]
  unfold D_grades_by B_grades_by
  have dc := fun s => go_dctT (l := ps) (by have := h.2.2.1.2.2; omega) (mks_nodup h.2.2.1) s
  simp only [den_cons, den_nil, denS, denE, denA, denO, denL, denI, denT, denTs, denC, go_bind, go_pure, go_bad, bindR_ok, bindR_bad, bindR_bindR, bindR_ite, go_ite, go_ofS, go_rdD, go_fzD, go_asB, go_asI, go_slot, slot_s, go_slotF, slotF_s, go_noX, noR_ok, noR_ite, go_opD, go_cmpB, go_cmp, go_isi, go_neg, go_rdL_nil, go_rdL_cons, go_fzL_nil, go_fzL_cons, go_bi1, go_bi2, go_slc, go_tup, go_disp, go_fz, go_seqL, go_seqT, go_enumL, go_enumT, go_zipTT, go_zipLL, go_zipTL, go_zipLT, Nat.sub_self, go_sclS, go_scsS, go_listT, go_listL, go_new, gc_d, gc_ite, take_len, take_app, go_newDc, chkDc_s, modDc_s, go_keyS, go_keyI, go_starT, go_starL, List.set_cons_zero, List.set_cons_succ, List.map_cons, List.map_nil, List.cons_append, List.nil_append, List.replicate_succ, List.replicate_zero, List.length_cons, List.length_nil, Tgs.len, wipeR, List.getD_cons_zero, List.getD_cons_succ, dc]
  rw [go_comp_of rqD (fun q => fqD (q.1.val (scr ps), q.2)) rs ?h ?l]
  case h =>
    intro q hq
    obtain ⟨ht, hs⟩ := h.2.1 q hq
    have sv : ∀ st, go (run tab (n + 4) F_value_of [.d q.1.d, .d (.dict (ps.map kvD))]) st = .ok (.d (.int (q.1.val (scr ps)))) st := fun st => s_value_of 4 q.1 ht.1 h.1.2 (fun x hx => scr_get (h.2.2.2 x (q.1.works_in ht.1 x hx))) n st
    have lo : ∀ st, go (run tab (n + 4) F_lowest [.d (.int (q.1.val (scr ps))), .d (.int q.2)]) st = .ok (.d (fqD (q.1.val (scr ps), q.2))) st := fun st => s_lowest _ _ hs.1 hs.2 (n + 2) st
    simp only [den_cons, den_nil, denS, denE, denA, denO, denL, denI, denT, denTs, denC, go_bind, go_pure, go_bad, bindR_ok, bindR_bad, bindR_bindR, bindR_ite, go_ite, go_ofS, go_rdD, go_fzD, go_asB, go_asI, go_slot, slot_s, go_slotF, slotF_s, go_noX, noR_ok, noR_ite, go_opD, go_cmpB, go_cmp, go_isi, go_neg, go_rdL_nil, go_rdL_cons, go_fzL_nil, go_fzL_cons, go_bi1, go_bi2, go_slc, go_tup, go_disp, go_fz, go_seqL, go_seqT, go_enumL, go_enumT, go_zipTT, go_zipLL, go_zipTL, go_zipLT, Nat.sub_self, go_sclS, go_scsS, go_listT, go_listL, go_new, gc_d, gc_ite, take_len, take_app, go_newDc, chkDc_s, modDc_s, go_keyS, go_keyI, go_starT, go_starL, List.set_cons_zero, List.set_cons_succ, List.map_cons, List.map_nil, List.cons_append, List.nil_append, List.replicate_succ, List.replicate_zero, List.length_cons, List.length_nil, Tgs.len, wipeR, List.getD_cons_zero, List.getD_cons_succ, show rqD q = .tuple [q.1.d, .int q.2] from rfl, sv, lo, if_true]
  case l => unfold SZ; omega
  simp only [den_cons, den_nil, denS, denE, denA, denO, denL, denI, denT, denTs, denC, go_bind, go_pure, go_bad, bindR_ok, bindR_bad, bindR_bindR, bindR_ite, go_ite, go_ofS, go_rdD, go_fzD, go_asB, go_asI, go_slot, slot_s, go_slotF, slotF_s, go_noX, noR_ok, noR_ite, go_opD, go_cmpB, go_cmp, go_isi, go_neg, go_rdL_nil, go_rdL_cons, go_fzL_nil, go_fzL_cons, go_bi1, go_bi2, go_slc, go_tup, go_disp, go_fz, go_seqL, go_seqT, go_enumL, go_enumT, go_zipTT, go_zipLL, go_zipTL, go_zipLT, Nat.sub_self, go_sclS, go_scsS, go_listT, go_listL, go_new, gc_d, gc_ite, take_len, take_app, go_newDc, chkDc_s, modDc_s, go_keyS, go_keyI, go_starT, go_starL, List.set_cons_zero, List.set_cons_succ, List.map_cons, List.map_nil, List.cons_append, List.nil_append, List.replicate_succ, List.replicate_zero, List.length_cons, List.length_nil, Tgs.len, wipeR, List.getD_cons_zero, List.getD_cons_succ]
  rw [show (rs.map fun q => fqD (q.1.val (scr ps), q.2)) = (vals (scr ps) rs).map fqD from by unfold vals; rw [List.map_map]; rfl]
theorem s_checks {ns : List Str} {rs : List (Tr × Int)} {ps : List (Str × Int)} (h : Scd ns rs ps) (h1 : 1 ≤ rs.length) (hl : rs.length ≤ 4) (n : Nat) (st : Sto) :
    go (run tab (n + 16) F_check_schemes [.d (.tuple (rs.map rqD))]) st = .ok (.d .none) st ∧
    go (run tab (n + 16) F_works_of_all [.d (.tuple (rs.map rqD))]) st = .ok (.d (.tuple ((setS (allW rs)).map .str))) st ∧
    go (run tab (n + 16) F_check_scores_of [.d (.tuple ((setS (allW rs)).map .str)), .d (.tuple (ps.map prD))]) st = .ok (.d .none) st ∧
    go (run tab (n + 16) F_grades_by [.d (.tuple (rs.map rqD)), .d (.tuple (ps.map prD))]) st = .ok (.d (.list ((vals (scr ps) rs).map fqD))) st ∧
    go (run tab (n + 16) F_best_at [.d (.list ((vals (scr ps) rs).map fqD))]) st = .ok (.d (.int (bestN (vals (scr ps) rs) : Nat))) st :=
  ⟨s_check_schemes h.1 h.2.1 h1 hl n st, s_works_of_all h.1 h.2.1 hl (n + 9) st,
    s_check_scores_of h.2.2.1 _ (fun x hx => h.2.2.2 x (allW_in h.2.1 x (setS_mem.mp hx))) (n + 8) st,
    s_grades_by h hl (n + 11) st,
    s_best_at (vals_scl h _) (fun z => by unfold vals at z; rw [List.map_eq_nil_iff] at z; rw [z, List.length_nil] at h1; omega) (n + 14) st⟩
def bestP (f : Str → Int) (rs : List (Tr × Int)) : Int × Int := (vals f rs).getD (bestN (vals f rs)) (0, 1)
theorem best_at {f : Str → Int} {rs : List (Tr × Int)} (h1 : 1 ≤ rs.length) : (vals f rs)[bestN (vals f rs)]? = some (bestP f rs) :=
  at_lt _ (bestN_lt fun z => by unfold vals at z; rw [List.map_eq_nil_iff] at z; rw [z, List.length_nil] at h1; omega)
theorem s_scheme_grade {ns : List Str} {rs : List (Tr × Int)} {ps : List (Str × Int)} (h : Scd ns rs ps) (h1 : 1 ≤ rs.length) (hl : rs.length ≤ 4) (n : Nat) (st : Sto) : go (run tab (n + 17) F_scheme_grade [.d (.tuple (rs.map rqD)), .d (.tuple (ps.map prD))]) st = .ok (.d (fqD (bestP (scr ps) rs))) st := by
  rw [go_run _ T_scheme_grade (n + 16) _ _ ⟨rfl, by decide⟩, go_body]
  unfold D_scheme_grade B_scheme_grade
  have q1 := fun st => (s_checks h h1 hl n st).1
  have q2 := fun st => (s_checks h h1 hl n st).2.1
  have q3 := fun st => (s_checks h h1 hl n st).2.2.1
  have q4 := fun st => (s_checks h h1 hl n st).2.2.2.1
  have q5 := fun st => (s_checks h h1 hl n st).2.2.2.2
  have i1 : idxD (.list ((vals (scr ps) rs).map fqD)) (.int (bestN (vals (scr ps) rs) : Nat)) = some (fqD (bestP (scr ps) rs)) := idxL_at _ _ (by rw [List.getElem?_map, best_at h1]; rfl)
  simp only [den_cons, den_nil, denS, denE, denA, denO, denL, denI, denT, denTs, denC, go_bind, go_pure, go_bad, bindR_ok, bindR_bad, bindR_bindR, bindR_ite, go_ite, go_ofS, go_rdD, go_fzD, go_asB, go_asI, go_slot, slot_s, go_slotF, slotF_s, go_noX, noR_ok, noR_ite, go_opD, go_cmpB, go_cmp, go_isi, go_neg, go_rdL_nil, go_rdL_cons, go_fzL_nil, go_fzL_cons, go_bi1, go_bi2, go_slc, go_tup, go_disp, go_fz, go_seqL, go_seqT, go_enumL, go_enumT, go_zipTT, go_zipLL, go_zipTL, go_zipLT, Nat.sub_self, go_sclS, go_scsS, go_listT, go_listL, go_new, gc_d, gc_ite, take_len, take_app, go_newDc, chkDc_s, modDc_s, go_keyS, go_keyI, go_starT, go_starL, List.set_cons_zero, List.set_cons_succ, List.map_cons, List.map_nil, List.cons_append, List.nil_append, List.replicate_succ, List.replicate_zero, List.length_cons, List.length_nil, Tgs.len, wipeR, List.getD_cons_zero, List.getD_cons_succ, q1, q2, q3, q4, q5, i1]
theorem s_best_scheme {ns : List Str} {rs : List (Tr × Int)} {ps : List (Str × Int)} (h : Scd ns rs ps) (h1 : 1 ≤ rs.length) (hl : rs.length ≤ 4) (n : Nat) (st : Sto) : go (run tab (n + 17) F_best_scheme [.d (.tuple (rs.map rqD)), .d (.tuple (ps.map prD))]) st = .ok (.d (.int (bestN (vals (scr ps) rs) : Nat))) st := by
  rw [go_run _ T_best_scheme (n + 16) _ _ ⟨rfl, by decide⟩, go_body]
  unfold D_best_scheme B_best_scheme
  have q1 := fun st => (s_checks h h1 hl n st).1
  have q2 := fun st => (s_checks h h1 hl n st).2.1
  have q3 := fun st => (s_checks h h1 hl n st).2.2.1
  have q4 := fun st => (s_checks h h1 hl n st).2.2.2.1
  have q5 := fun st => (s_checks h h1 hl n st).2.2.2.2
  simp only [den_cons, den_nil, denS, denE, denA, denO, denL, denI, denT, denTs, denC, go_bind, go_pure, go_bad, bindR_ok, bindR_bad, bindR_bindR, bindR_ite, go_ite, go_ofS, go_rdD, go_fzD, go_asB, go_asI, go_slot, slot_s, go_slotF, slotF_s, go_noX, noR_ok, noR_ite, go_opD, go_cmpB, go_cmp, go_isi, go_neg, go_rdL_nil, go_rdL_cons, go_fzL_nil, go_fzL_cons, go_bi1, go_bi2, go_slc, go_tup, go_disp, go_fz, go_seqL, go_seqT, go_enumL, go_enumT, go_zipTT, go_zipLL, go_zipTL, go_zipLT, Nat.sub_self, go_sclS, go_scsS, go_listT, go_listL, go_new, gc_d, gc_ite, take_len, take_app, go_newDc, chkDc_s, modDc_s, go_keyS, go_keyI, go_starT, go_starL, List.set_cons_zero, List.set_cons_succ, List.map_cons, List.map_nil, List.cons_append, List.nil_append, List.replicate_succ, List.replicate_zero, List.length_cons, List.length_nil, Tgs.len, wipeR, List.getD_cons_zero, List.getD_cons_succ, q1, q2, q3, q4, q5]
theorem l_law_best {ns : List Str} {rs : List (Tr × Int)} {ps : List (Str × Int)} (h : Scd ns rs ps) (h1 : 1 ≤ rs.length) (n : Nat) (st : Sto) : go (run tab (n + 5) F__law_best [.d (.tuple (rs.map rqD)), .d (.dict (ps.map kvD))]) st = .ok (.d (.int (bestN (vals (scr ps) rs) : Nat))) st := by
  rw [go_run _ T__law_best (n + 4) _ _ ⟨rfl, by decide⟩, go_body]
  unfold D__law_best B__law_best
  have lv : ∀ q ∈ rs, ∀ st, go (run tab (n + 4) F__law_value [.d q.1.d, .d (.dict (ps.map kvD))]) st = .ok (.d (.int (q.1.val (scr ps)))) st := fun q hq st => u_value 4 q.1 (h.2.1 q hq).1.1 h.1.2 (fun x hx => scr_get (h.2.2.2 x (q.1.works_in (h.2.1 q hq).1.1 x hx))) n st
  have ez : (vals (scr ps) rs).zipIdx = rs.zipIdx.map fun p => ((p.1.1.val (scr ps), p.1.2), p.2) := by unfold vals; rw [List.zipIdx_map]; rfl
  simp only [den_cons, den_nil, denS, denE, denA, denO, denL, denI, denT, denTs, denC, go_bind, go_pure, go_bad, bindR_ok, bindR_bad, bindR_bindR, bindR_ite, go_ite, go_ofS, go_rdD, go_fzD, go_asB, go_asI, go_slot, slot_s, go_slotF, slotF_s, go_noX, noR_ok, noR_ite, go_opD, go_cmpB, go_cmp, go_isi, go_neg, go_rdL_nil, go_rdL_cons, go_fzL_nil, go_fzL_cons, go_bi1, go_bi2, go_slc, go_tup, go_disp, go_fz, go_seqL, go_seqT, go_enumL, go_enumT, go_zipTT, go_zipLL, go_zipTL, go_zipLT, Nat.sub_self, go_sclS, go_scsS, go_listT, go_listL, go_new, gc_d, gc_ite, take_len, take_app, go_newDc, chkDc_s, modDc_s, go_keyS, go_keyI, go_starT, go_starL, List.set_cons_zero, List.set_cons_succ, List.map_cons, List.map_nil, List.cons_append, List.nil_append, List.replicate_succ, List.replicate_zero, List.length_cons, List.length_nil, Tgs.len, wipeR, List.getD_cons_zero, List.getD_cons_succ, enum_mapG]
  refine rw_to_eq (rw_gc (rw_bind (rw_forT (fun p : (Tr × Int) × Nat => .tuple [.int (p.2 : Int), rqD p.1]) (fun rem ρ s => ∃ (f : Nat) (x y z : Option W), ρ = [some (.d (.tuple (rs.map rqD))), some (.d (.dict (ps.map kvD))), some (.d (.int (f : Int))), x, y, z] ∧ s = st ∧ f < rs.length ∧ (rem.map fun p => ((p.1.1.val (scr ps), p.1.2), p.2)).foldl (stepB (vals (scr ps) rs)) f = bestN (vals (scr ps) rs)) _ _ _ ⟨0, _, _, _, rfl, rfl, h1, by rw [← ez]; rfl⟩ ?hs ?hd)))
  case hs =>
    rintro p r ρ s hp ⟨f, x, y, z, rfl, rfl, hf, e⟩
    have ef : rs[f]? = some rs[f] := List.getElem?_eq_getElem hf
    have mf : rs[f] ∈ rs := List.getElem_mem hf
    have mp : p.1 ∈ rs := List.mem_of_getElem? (zip_at hp)
    have i1 : idxD (.tuple (rs.map rqD)) (.int (f : Int)) = some (.tuple [rs[f].1.d, .int rs[f].2]) := idx_at _ _ (by rw [List.getElem?_map, ef]; rfl)
    have pl := zipIx_lt hp
    have gd : (vals (scr ps) rs).getD f (0, 1) = (rs[f].1.val (scr ps), rs[f].2) := getD_at (by unfold vals; rw [List.getElem?_map, ef]; rfl)
    have m1 : small rs[f].2 = true := sm_of (by have := (h.2.1 _ mf).2.1; omega) (by have := (h.2.1 _ mf).2.2; omega)
    have m2 : small p.1.2 = true := sm_of (by have := (h.2.1 _ mp).2.1; omega) (by have := (h.2.1 _ mp).2.2; omega)
    rw [List.map_cons, List.foldl_cons] at e
    simp only [den_cons, den_nil, denS, denE, denA, denO, denL, denI, denT, denTs, denC, go_bind, go_pure, go_bad, bindR_ok, bindR_bad, bindR_bindR, bindR_ite, go_ite, go_ofS, go_rdD, go_fzD, go_asB, go_asI, go_slot, slot_s, go_slotF, slotF_s, go_noX, noR_ok, noR_ite, go_opD, go_cmpB, go_cmp, go_isi, go_neg, go_rdL_nil, go_rdL_cons, go_fzL_nil, go_fzL_cons, go_bi1, go_bi2, go_slc, go_tup, go_disp, go_fz, go_seqL, go_seqT, go_enumL, go_enumT, go_zipTT, go_zipLL, go_zipTL, go_zipLT, Nat.sub_self, go_sclS, go_scsS, go_listT, go_listL, go_new, gc_d, gc_ite, take_len, take_app, go_newDc, chkDc_s, modDc_s, go_keyS, go_keyI, go_starT, go_starL, List.set_cons_zero, List.set_cons_succ, List.map_cons, List.map_nil, List.cons_append, List.nil_append, List.replicate_succ, List.replicate_zero, List.length_cons, List.length_nil, Tgs.len, wipeR, List.getD_cons_zero, List.getD_cons_succ, show rqD p.1 = .tuple [p.1.1.d, .int p.1.2] from rfl, lv _ mp, lv _ mf, i1, idx_0, idx_1, mul_r _ m1, mul_r _ m2, cmp_gt]
    by_cases w : rs[f].1.val (scr ps) * p.1.2 < p.1.1.val (scr ps) * rs[f].2
    · simp only [decide_eq_true w, if_true, den_cons, den_nil, denS, denE, denA, denO, denL, denI, denT, denTs, denC, go_bind, go_pure, go_bad, bindR_ok, bindR_bad, bindR_bindR, bindR_ite, go_ite, go_ofS, go_rdD, go_fzD, go_asB, go_asI, go_slot, slot_s, go_slotF, slotF_s, go_noX, noR_ok, noR_ite, go_opD, go_cmpB, go_cmp, go_isi, go_neg, go_rdL_nil, go_rdL_cons, go_fzL_nil, go_fzL_cons, go_bi1, go_bi2, go_slc, go_tup, go_disp, go_fz, go_seqL, go_seqT, go_enumL, go_enumT, go_zipTT, go_zipLL, go_zipTL, go_zipLT, Nat.sub_self, go_sclS, go_scsS, go_listT, go_listL, go_new, gc_d, gc_ite, take_len, take_app, go_newDc, chkDc_s, modDc_s, go_keyS, go_keyI, go_starT, go_starL, List.set_cons_zero, List.set_cons_succ, List.map_cons, List.map_nil, List.cons_append, List.nil_append, List.replicate_succ, List.replicate_zero, List.length_cons, List.length_nil, Tgs.len, wipeR, List.getD_cons_zero, List.getD_cons_succ]
      have : stepB (vals (scr ps) rs) f ((p.1.1.val (scr ps), p.1.2), p.2) = p.2 := by unfold stepB; rw [gd]; exact if_pos w
      exact ⟨p.2, _, _, _, rfl, rfl, pl, by rw [← e, this]⟩
    · simp only [decide_eq_false w, Bool.false_eq_true, if_false, den_cons, den_nil, denS, denE, denA, denO, denL, denI, denT, denTs, denC, go_bind, go_pure, go_bad, bindR_ok, bindR_bad, bindR_bindR, bindR_ite, go_ite, go_ofS, go_rdD, go_fzD, go_asB, go_asI, go_slot, slot_s, go_slotF, slotF_s, go_noX, noR_ok, noR_ite, go_opD, go_cmpB, go_cmp, go_isi, go_neg, go_rdL_nil, go_rdL_cons, go_fzL_nil, go_fzL_cons, go_bi1, go_bi2, go_slc, go_tup, go_disp, go_fz, go_seqL, go_seqT, go_enumL, go_enumT, go_zipTT, go_zipLL, go_zipTL, go_zipLT, Nat.sub_self, go_sclS, go_scsS, go_listT, go_listL, go_new, gc_d, gc_ite, take_len, take_app, go_newDc, chkDc_s, modDc_s, go_keyS, go_keyI, go_starT, go_starL, List.set_cons_zero, List.set_cons_succ, List.map_cons, List.map_nil, List.cons_append, List.nil_append, List.replicate_succ, List.replicate_zero, List.length_cons, List.length_nil, Tgs.len, wipeR, List.getD_cons_zero, List.getD_cons_succ]
      have : stepB (vals (scr ps) rs) f ((p.1.1.val (scr ps), p.1.2), p.2) = f := by unfold stepB; rw [gd]; exact if_neg w
      exact ⟨f, _, _, _, rfl, rfl, hf, by rw [← e, this]⟩
  case hd =>
    rintro ρ s ⟨f, x, y, z, rfl, rfl, hf, e⟩
    simp only [List.map_nil, List.foldl_nil] at e
    subst e
    simp only [den_cons, den_nil, denS, denE, denA, denO, denL, denI, denT, denTs, denC, go_bind, go_pure, go_bad, bindR_ok, bindR_bad, bindR_bindR, bindR_ite, go_ite, go_ofS, go_rdD, go_fzD, go_asB, go_asI, go_slot, slot_s, go_slotF, slotF_s, go_noX, noR_ok, noR_ite, go_opD, go_cmpB, go_cmp, go_isi, go_neg, go_rdL_nil, go_rdL_cons, go_fzL_nil, go_fzL_cons, go_bi1, go_bi2, go_slc, go_tup, go_disp, go_fz, go_seqL, go_seqT, go_enumL, go_enumT, go_zipTT, go_zipLL, go_zipTL, go_zipLT, Nat.sub_self, go_sclS, go_scsS, go_listT, go_listL, go_new, gc_d, gc_ite, take_len, take_app, go_newDc, chkDc_s, modDc_s, go_keyS, go_keyI, go_starT, go_starL, List.set_cons_zero, List.set_cons_succ, List.map_cons, List.map_nil, List.cons_append, List.nil_append, List.replicate_succ, List.replicate_zero, List.length_cons, List.length_nil, Tgs.len, wipeR, List.getD_cons_zero, List.getD_cons_succ]
    exact ⟨rfl, List.take_length⟩
end Gk
namespace Gk
open PySem PySem.Spec L2 Gd
def Env3 (l : Nat) (x1 : Option W) (wo sc : W) (ρ : Rho) : Prop := ∃ x4 x5 x6 x7 x8 : Option W, ρ = [some (.r l), x1, some wo, some sc, x4, x5, x6, x7, x8]
theorem right_2 {l : Nat} {s : Sto} (h : Wat l s) {ns : List Str} (hn : NmsU ns) {rs : List (Tr × Int)} (hr : ∀ q ∈ rs, RQ ns q) (h1 : 1 ≤ rs.length) (h4 : rs.length ≤ 4) (x1 x4 x5 x6 x7 x8 : Option W) (n : Nat) :
    RWp (go (denSs (run tab (n + 18)) B__law_right_2 [some (.r l), x1, some (.d (.list (ns.map .str))), some (.d (.tuple (rs.map rqD))), x4, x5, x6, x7, x8]) s) fun p s' => p.1 = .nx ∧ Env3 l x1 (.d (.list (ns.map .str))) (.d (.tuple (rs.map rqD))) p.2 ∧ Drw l s s' := by
  unfold B__law_right_2
  simp only [den_cons, den_nil, denS, denE, denA, denO, denL, denI, denT, denTs, denC, go_bind, go_pure, go_bad, bindR_ok, bindR_bad, bindR_bindR, bindR_ite, go_ite, go_ofS, go_rdD, go_fzD, go_asB, go_asI, go_slot, slot_s, go_slotF, slotF_s, go_noX, noR_ok, noR_ite, go_opD, go_cmpB, go_cmp, go_isi, go_neg, go_rdL_nil, go_rdL_cons, go_fzL_nil, go_fzL_cons, go_bi1, go_bi2, go_slc, go_tup, go_disp, go_fz, go_seqL, go_seqT, go_enumL, go_enumT, go_zipTT, go_zipLL, go_zipTL, go_zipLT, Nat.sub_self, go_sclS, go_scsS, go_listT, go_listL, go_new, gc_d, gc_ite, take_len, take_app, go_newDc, chkDc_s, modDc_s, go_keyS, go_keyI, go_starT, go_starL, List.set_cons_zero, List.set_cons_succ, List.map_cons, List.map_nil, List.cons_append, List.nil_append, List.replicate_succ, List.replicate_zero, List.length_cons, List.length_nil, Tgs.len, wipeR, List.getD_cons_zero, List.getD_cons_succ]
  refine rw_bind ((u_scores h hn.1.2 hn.1.1 hn.2.1 (n + 15)).mono ?_)
  rintro w s1 ⟨⟨ps, rfl, e, hp⟩, dr1⟩
  have mk : Mks ps := by
    refine ⟨fun p q => ⟨hn.1.1 _ (by rw [← e]; exact List.mem_map_of_mem q), hp p q⟩, List.pairwise_map.mp (by rw [e]; exact hn.2.1), ?_⟩
    have := hn.1.2
    rw [← e, List.length_map] at this
    exact this
  have sd : Scd ns rs ps := ⟨hn.1, hr, mk, fun x hx => by rw [e]; exact hx⟩
  have dc := fun s => go_dctT (l := ps) (by have := mk.2.2; omega) (mks_nodup mk) s
  have lb : ∀ st, go (run tab (n + 18) F__law_best [.d (.tuple (rs.map rqD)), .d (.dict (ps.map kvD))]) st = .ok (.d (.int (bestN (vals (scr ps) rs) : Nat))) st := fun st => l_law_best sd h1 (n + 13) st
  have sg : ∀ st, go (run tab (n + 18) F_scheme_grade [.d (.tuple (rs.map rqD)), .d (.tuple (ps.map prD))]) st = .ok (.d (fqD (bestP (scr ps) rs))) st := fun st => s_scheme_grade sd h1 h4 (n + 1) st
  have bs : ∀ st, go (run tab (n + 18) F_best_scheme [.d (.tuple (rs.map rqD)), .d (.tuple (ps.map prD))]) st = .ok (.d (.int (bestN (vals (scr ps) rs) : Nat))) st := fun st => s_best_scheme sd h1 h4 (n + 1) st
  have ba := best_at (f := scr ps) h1
  have bl : bestN (vals (scr ps) rs) < 4 := by
    have := (List.getElem?_eq_some_iff.mp ba).1
    unfold vals at this ⊢
    rw [List.length_map] at this
    omega
  generalize bestN (vals (scr ps) rs) = k at *
  unfold vals at ba
  rw [List.getElem?_map] at ba
  obtain ⟨b, eb, e2⟩ : ∃ b, rs[k]? = some b ∧ bestP (scr ps) rs = (b.1.val (scr ps), b.2) := by
    cases eb : rs[k]? with
    | none => rw [eb] at ba; cases ba
    | some b => rw [eb] at ba; exact ⟨b, rfl, (Option.some.inj ba).symm⟩
  have mb := List.mem_of_getElem? eb
  obtain ⟨ht, hs⟩ := hr b mb
  have i1 : idxD (.tuple (rs.map rqD)) (.int (k : Int)) = some (.tuple [b.1.d, .int b.2]) := idx_at _ _ (by rw [List.getElem?_map, eb]; rfl)
  have lv : ∀ st, go (run tab (n + 18) F__law_value [.d b.1.d, .d (.dict (ps.map kvD))]) st = .ok (.d (.int (b.1.val (scr ps)))) st := fun st => u_value 4 b.1 ht.1 hn.1.2 (fun x hx => scr_get (sd.2.2.2 x (b.1.works_in ht.1 x hx))) (n + 14) st
  have lo : ∀ st, go (run tab (n + 18) F__law_lowest [.d (.int (b.1.val (scr ps))), .d (.int b.2)]) st = .ok (.d (fqD (bestP (scr ps) rs))) st := fun st => by rw [e2]; exact u_lowest _ _ hs.1 hs.2 (n + 17) st
  have vb : (b.1.val (scr ps)).natAbs < 10 ^ 12 := Nat.lt_of_le_of_lt (Tr.val_bd (ns := ns) hn.1.2 (f := scr ps) (fun x _ => scr_bd hp x) b.1 ht.1) (by decide)
  have rp : Rep 2 332 (.list [fqD (bestP (scr ps) rs), fqD (bestP (scr ps) rs), .int (k : Int), .int (k : Int)]) := Rep.list (m := 1) (w := 82) (xs := [_, _, _, _]) fun x hx => by
    simp only [List.mem_cons, List.not_mem_nil, or_false] at hx
    rcases hx with rfl | rfl | rfl | rfl
    · rw [e2]; exact Rep.fr vb hs
    · rw [e2]; exact Rep.fr vb hs
    · exact (Rep.int (by omega)).mono (by decide) (by decide)
    · exact (Rep.int (by omega)).mono (by decide) (by decide)
  have cat : binD .add (.list [fqD (bestP (scr ps) rs), fqD (bestP (scr ps) rs)]) (.list [.int (k : Int), .int (k : Int)]) = some (.list [fqD (bestP (scr ps) rs), fqD (bestP (scr ps) rs), .int (k : Int), .int (k : Int)]) := cat_L (by simp only [List.length_cons, List.length_nil]; unfold SZ; omega)
  simp only [den_cons, den_nil, denS, denE, denA, denO, denL, denI, denT, denTs, denC, go_bind, go_pure, go_bad, bindR_ok, bindR_bad, bindR_bindR, bindR_ite, go_ite, go_ofS, go_rdD, go_fzD, go_asB, go_asI, go_slot, slot_s, go_slotF, slotF_s, go_noX, noR_ok, noR_ite, go_opD, go_cmpB, go_cmp, go_isi, go_neg, go_rdL_nil, go_rdL_cons, go_fzL_nil, go_fzL_cons, go_bi1, go_bi2, go_slc, go_tup, go_disp, go_fz, go_seqL, go_seqT, go_enumL, go_enumT, go_zipTT, go_zipLL, go_zipTL, go_zipLT, Nat.sub_self, go_sclS, go_scsS, go_listT, go_listL, go_new, gc_d, gc_ite, take_len, take_app, go_newDc, chkDc_s, modDc_s, go_keyS, go_keyI, go_starT, go_starL, List.set_cons_zero, List.set_cons_succ, List.map_cons, List.map_nil, List.cons_append, List.nil_append, List.replicate_succ, List.replicate_zero, List.length_cons, List.length_nil, Tgs.len, wipeR, List.getD_cons_zero, List.getD_cons_succ, dc, lb, i1, idx_0, idx_1, lv, lo, sg, bs, show (0 + 1 + 1 : Nat) ≤ SZ by decide, show (0 + 1 + 1 + 1 + 1 : Nat) ≤ SZ by decide, if_true, cat, rp.repr (by decide) (by decide), cmp_neSS, decide_true, Bool.not_true, Bool.false_eq_true, if_false]
  exact ⟨rfl, ⟨_, _, _, _, _, rfl⟩, dr1⟩
theorem u_many {l : Nat} {s : Sto} (hw : Wat l s) (n : Nat) : RWp (go (run tab (n + 2) F__law_of [.r l, .d (.list [.int 1, .int 3, .int 6, .int 9])]) s) fun w s' => (∃ many : Nat, w = .d (.int (many : Int)) ∧ 1 ≤ many ∧ many ≤ 9) ∧ Drw l s s' := by
  refine (u_ofL hw (xs := [.int 1, .int 3, .int 6, .int 9]) (by simp) (by simp) n).mono ?_
  rintro w s1 ⟨⟨d, hd, e⟩, dr1⟩
  refine ⟨?_, dr1⟩
  simp only [List.mem_cons, List.not_mem_nil, or_false] at hd
  rcases hd with z | z | z | z
  · exact ⟨1, by rw [e, z]; rfl, by decide, by decide⟩
  · exact ⟨3, by rw [e, z]; rfl, by decide, by decide⟩
  · exact ⟨6, by rw [e, z]; rfl, by decide, by decide⟩
  · exact ⟨9, by rw [e, z]; rfl, by decide, by decide⟩
theorem right_1 {l : Nat} {s : Sto} (hw : Wat l s) (x1 x2 x3 x4 x5 x6 x7 x8 : Option W) (n : Nat) :
    RWp (go (denSs (run tab (n + 18)) B__law_right_1 [some (.r l), x1, x2, x3, x4, x5, x6, x7, x8]) s) fun p s' => p.1 = .nx ∧ (∃ x1 x2 x3 x4 x5 x6 x7 x8 : Option W, p.2 = [some (.r l), x1, x2, x3, x4, x5, x6, x7, x8]) ∧ Drw l s s' := by
  unfold B__law_right_1
  have hl := hw.lt
  simp only [den_cons, den_nil, denS, denE, denA, denO, denL, denI, denT, denTs, denC, go_bind, go_pure, go_bad, bindR_ok, bindR_bad, bindR_bindR, bindR_ite, go_ite, go_ofS, go_rdD, go_fzD, go_asB, go_asI, go_slot, slot_s, go_slotF, slotF_s, go_noX, noR_ok, noR_ite, go_opD, go_cmpB, go_cmp, go_isi, go_neg, go_rdL_nil, go_rdL_cons, go_fzL_nil, go_fzL_cons, go_bi1, go_bi2, go_slc, go_tup, go_disp, go_fz, go_seqL, go_seqT, go_enumL, go_enumT, go_zipTT, go_zipLL, go_zipTL, go_zipLT, Nat.sub_self, go_sclS, go_scsS, go_listT, go_listL, go_new, gc_d, gc_ite, take_len, take_app, go_newDc, chkDc_s, modDc_s, go_keyS, go_keyI, go_starT, go_starL, List.set_cons_zero, List.set_cons_succ, List.map_cons, List.map_nil, List.cons_append, List.nil_append, List.replicate_succ, List.replicate_zero, List.length_cons, List.length_nil, Tgs.len, wipeR, List.getD_cons_zero, List.getD_cons_succ, show (0 + 1 + 1 + 1 + 1 : Nat) ≤ SZ by decide, if_true]
  refine rw_bind ((u_many hw (n + 16)).mono ?_)
  intro w s1 h0
  obtain ⟨h1, dr1⟩ := h0
  obtain ⟨many, e0, m1, m2⟩ := h1
  refine rw_bind ((u_names (dr1.at hl) m2 e0 (n + 15)).mono ?_)
  intro w s2 h0
  obtain ⟨h1, dr2⟩ := h0
  obtain ⟨ns0, e1, hns, hnd, hlen⟩ := h1
  subst e1
  have dr2 := dr1.trans dr2
  have pm := upS_perm ns0
  have hn : NmsU (upS ns0) := ⟨⟨fun x hx => hns x (pm.mem_iff.mp hx), by rw [pm.length_eq]; omega⟩, upS_lt hnd, fun z => by have := pm.length_eq; rw [z, List.length_nil] at this; omega⟩
  simp only [den_cons, den_nil, denS, denE, denA, denO, denL, denI, denT, denTs, denC, go_bind, go_pure, go_bad, bindR_ok, bindR_bad, bindR_bindR, bindR_ite, go_ite, go_ofS, go_rdD, go_fzD, go_asB, go_asI, go_slot, slot_s, go_slotF, slotF_s, go_noX, noR_ok, noR_ite, go_opD, go_cmpB, go_cmp, go_isi, go_neg, go_rdL_nil, go_rdL_cons, go_fzL_nil, go_fzL_cons, go_bi1, go_bi2, go_slc, go_tup, go_disp, go_fz, go_seqL, go_seqT, go_enumL, go_enumT, go_zipTT, go_zipLL, go_zipTL, go_zipLT, Nat.sub_self, go_sclS, go_scsS, go_listT, go_listL, go_new, gc_d, gc_ite, take_len, take_app, go_newDc, chkDc_s, modDc_s, go_keyS, go_keyI, go_starT, go_starL, List.set_cons_zero, List.set_cons_succ, List.map_cons, List.map_nil, List.cons_append, List.nil_append, List.replicate_succ, List.replicate_zero, List.length_cons, List.length_nil, Tgs.len, wipeR, List.getD_cons_zero, List.getD_cons_succ, go_sort_nm (l := ns0) (by omega) hns]
  generalize upS ns0 = ns at *
  refine rw_bind ((u_take (dr2.at hl) (lim := 2) (by decide) (by decide) (n + 17)).mono ?_)
  intro w s3 h0
  obtain ⟨h1, dr3⟩ := h0
  obtain ⟨k, e1, hk⟩ := h1
  subst e1
  have dr3 := dr2.trans dr3
  simp only [den_cons, den_nil, denS, denE, denA, denO, denL, denI, denT, denTs, denC, go_bind, go_pure, go_bad, bindR_ok, bindR_bad, bindR_bindR, bindR_ite, go_ite, go_ofS, go_rdD, go_fzD, go_asB, go_asI, go_slot, slot_s, go_slotF, slotF_s, go_noX, noR_ok, noR_ite, go_opD, go_cmpB, go_cmp, go_isi, go_neg, go_rdL_nil, go_rdL_cons, go_fzL_nil, go_fzL_cons, go_bi1, go_bi2, go_slc, go_tup, go_disp, go_fz, go_seqL, go_seqT, go_enumL, go_enumT, go_zipTT, go_zipLL, go_zipTL, go_zipLT, Nat.sub_self, go_sclS, go_scsS, go_listT, go_listL, go_new, gc_d, gc_ite, take_len, take_app, go_newDc, chkDc_s, modDc_s, go_keyS, go_keyI, go_starT, go_starL, List.set_cons_zero, List.set_cons_succ, List.map_cons, List.map_nil, List.cons_append, List.nil_append, List.replicate_succ, List.replicate_zero, List.length_cons, List.length_nil, Tgs.len, wipeR, List.getD_cons_zero, List.getD_cons_succ, cmp_eqI]
  refine rw_bind ((u_schemes (dr3.at hl) hn (decide ((k : Int) = 0)) (n + 13)).mono ?_)
  intro w s4 h0
  obtain ⟨h1, dr4⟩ := h0
  obtain ⟨rs, e1, hr, h1, h4⟩ := h1
  subst e1
  have dr4 := dr3.trans dr4
  have r4 : ∀ s, go (rng1M (.d (.int 4))) s = .ok ((List.range 4).map fun i : Nat => .int (i : Int)) s := fun s => go_rngN (k := 4) (by decide) s
  simp only [den_cons, den_nil, denS, denE, denA, denO, denL, denI, denT, denTs, denC, go_bind, go_pure, go_bad, bindR_ok, bindR_bad, bindR_bindR, bindR_ite, go_ite, go_ofS, go_rdD, go_fzD, go_asB, go_asI, go_slot, slot_s, go_slotF, slotF_s, go_noX, noR_ok, noR_ite, go_opD, go_cmpB, go_cmp, go_isi, go_neg, go_rdL_nil, go_rdL_cons, go_fzL_nil, go_fzL_cons, go_bi1, go_bi2, go_slc, go_tup, go_disp, go_fz, go_seqL, go_seqT, go_enumL, go_enumT, go_zipTT, go_zipLL, go_zipTL, go_zipLT, Nat.sub_self, go_sclS, go_scsS, go_listT, go_listL, go_new, gc_d, gc_ite, take_len, take_app, go_newDc, chkDc_s, modDc_s, go_keyS, go_keyI, go_starT, go_starL, List.set_cons_zero, List.set_cons_succ, List.map_cons, List.map_nil, List.cons_append, List.nil_append, List.replicate_succ, List.replicate_zero, List.length_cons, List.length_nil, Tgs.len, wipeR, List.getD_cons_zero, List.getD_cons_succ, r4]
  refine rw_bind (rw_forT (fun i : Nat => .int (i : Int)) (fun rem ρ s' => Env3 l x1 (.d (.list (ns.map .str))) (.d (.tuple (rs.map rqD))) ρ ∧ Drw l s s') _ _ _ ⟨⟨_, _, _, _, _, rfl⟩, dr4⟩ ?hs ?hd)
  case hs =>
    rintro i r ρ s' hi ⟨⟨y4, y5, y6, y7, y8, rfl⟩, dr⟩
    simp only [den_cons, den_nil, denS, denE, denA, denO, denL, denI, denT, denTs, denC, go_bind, go_pure, go_bad, bindR_ok, bindR_bad, bindR_bindR, bindR_ite, go_ite, go_ofS, go_rdD, go_fzD, go_asB, go_asI, go_slot, slot_s, go_slotF, slotF_s, go_noX, noR_ok, noR_ite, go_opD, go_cmpB, go_cmp, go_isi, go_neg, go_rdL_nil, go_rdL_cons, go_fzL_nil, go_fzL_cons, go_bi1, go_bi2, go_slc, go_tup, go_disp, go_fz, go_seqL, go_seqT, go_enumL, go_enumT, go_zipTT, go_zipLL, go_zipTL, go_zipLT, Nat.sub_self, go_sclS, go_scsS, go_listT, go_listL, go_new, gc_d, gc_ite, take_len, take_app, go_newDc, chkDc_s, modDc_s, go_keyS, go_keyI, go_starT, go_starL, List.set_cons_zero, List.set_cons_succ, List.map_cons, List.map_nil, List.cons_append, List.nil_append, List.replicate_succ, List.replicate_zero, List.length_cons, List.length_nil, Tgs.len, wipeR, List.getD_cons_zero, List.getD_cons_succ]
    refine (right_2 (dr.at hl) hn hr h1 h4 x1 _ y5 y6 y7 y8 n).mono ?_
    rintro ⟨fl, ρ⟩ s5 ⟨rfl, he, dr5⟩
    exact ⟨he, dr.trans dr5⟩
  case hd =>
    rintro ρ s' ⟨⟨y4, y5, y6, y7, y8, rfl⟩, dr⟩
    exact ⟨rfl, ⟨_, _, _, _, _, _, _, _, rfl⟩, dr⟩
theorem w_right {l : Nat} {s : Sto} (hw : Wat l s) (n : Nat) : RWp (go (run tab (n + 20) F__law_right [.r l]) s) fun w s' => w = .d (.bool true) ∧ Drw l s s' := by
  rw [go_run _ T__law_right (n + 19) _ _ ⟨rfl, by decide⟩, go_body]
  unfold D__law_right B__law_right
  have hl := hw.lt
  have r4 : ∀ s, go (rng1M (.d (.int 4))) s = .ok ((List.range 4).map fun i : Nat => .int (i : Int)) s := fun s => go_rngN (k := 4) (by decide) s
  simp only [den_cons, den_nil, denS, denE, denA, denO, denL, denI, denT, denTs, denC, go_bind, go_pure, go_bad, bindR_ok, bindR_bad, bindR_bindR, bindR_ite, go_ite, go_ofS, go_rdD, go_fzD, go_asB, go_asI, go_slot, slot_s, go_slotF, slotF_s, go_noX, noR_ok, noR_ite, go_opD, go_cmpB, go_cmp, go_isi, go_neg, go_rdL_nil, go_rdL_cons, go_fzL_nil, go_fzL_cons, go_bi1, go_bi2, go_slc, go_tup, go_disp, go_fz, go_seqL, go_seqT, go_enumL, go_enumT, go_zipTT, go_zipLL, go_zipTL, go_zipLT, Nat.sub_self, go_sclS, go_scsS, go_listT, go_listL, go_new, gc_d, gc_ite, take_len, take_app, go_newDc, chkDc_s, modDc_s, go_keyS, go_keyI, go_starT, go_starL, List.set_cons_zero, List.set_cons_succ, List.map_cons, List.map_nil, List.cons_append, List.nil_append, List.replicate_succ, List.replicate_zero, List.length_cons, List.length_nil, Tgs.len, wipeR, List.getD_cons_zero, List.getD_cons_succ, r4]
  refine rw_gc (rw_bind (rw_forT (fun i : Nat => .int (i : Int)) (fun rem ρ s' => (∃ x1 x2 x3 x4 x5 x6 x7 x8 : Option W, ρ = [some (.r l), x1, x2, x3, x4, x5, x6, x7, x8]) ∧ Drw l s s') _ _ _ ⟨⟨_, _, _, _, _, _, _, _, rfl⟩, hw.refl⟩ ?hs ?hd))
  case hs =>
    rintro i r ρ s' hi ⟨⟨x1, x2, x3, x4, x5, x6, x7, x8, rfl⟩, dr⟩
    simp only [den_cons, den_nil, denS, denE, denA, denO, denL, denI, denT, denTs, denC, go_bind, go_pure, go_bad, bindR_ok, bindR_bad, bindR_bindR, bindR_ite, go_ite, go_ofS, go_rdD, go_fzD, go_asB, go_asI, go_slot, slot_s, go_slotF, slotF_s, go_noX, noR_ok, noR_ite, go_opD, go_cmpB, go_cmp, go_isi, go_neg, go_rdL_nil, go_rdL_cons, go_fzL_nil, go_fzL_cons, go_bi1, go_bi2, go_slc, go_tup, go_disp, go_fz, go_seqL, go_seqT, go_enumL, go_enumT, go_zipTT, go_zipLL, go_zipTL, go_zipLT, Nat.sub_self, go_sclS, go_scsS, go_listT, go_listL, go_new, gc_d, gc_ite, take_len, take_app, go_newDc, chkDc_s, modDc_s, go_keyS, go_keyI, go_starT, go_starL, List.set_cons_zero, List.set_cons_succ, List.map_cons, List.map_nil, List.cons_append, List.nil_append, List.replicate_succ, List.replicate_zero, List.length_cons, List.length_nil, Tgs.len, wipeR, List.getD_cons_zero, List.getD_cons_succ]
    refine (right_1 (dr.at hl) _ x2 x3 x4 x5 x6 x7 x8 (n + 1)).mono ?_
    rintro ⟨fl, ρ⟩ s5 ⟨rfl, he, dr5⟩
    exact ⟨he, dr.trans dr5⟩
  case hd =>
    rintro ρ s' ⟨⟨x1, x2, x3, x4, x5, x6, x7, x8, rfl⟩, dr⟩
    exact ⟨rfl, by rw [dr.take]; exact dr⟩
theorem law_ok : ∀ is : List Int, is.length ≤ 63 → ∃ s, run tab 60 F_law [.s is] [] = .ok (.d (.bool true)) s := by
  intro is _
  have key : RWp (go (run tab 60 F_law [.s is]) []) fun w s' => w = .d (.bool true) := by
    rw [go_run _ T_law 59 _ _ ⟨rfl, by decide⟩, go_body]
    unfold D_law B_law
    have m1 : biD .min2 [.int (is.length : Int), .int 3] = some (.int ((min is.length 3 : Nat) : Int)) := min_n _ 3
    have m2 : biD .max2 [.int 1, .int ((min is.length 3 : Nat) : Int)] = some (.int ((max 1 (min is.length 3) : Nat) : Int)) := by
      simp only [biD]
      congr 2
      split <;> omega
    simp only [den_cons, den_nil, denS, denE, denA, denO, denL, denI, denT, denTs, denC, go_bind, go_pure, go_bad, bindR_ok, bindR_bad, bindR_bindR, bindR_ite, go_ite, go_ofS, go_rdD, go_fzD, go_asB, go_asI, go_slot, slot_s, go_slotF, slotF_s, go_noX, noR_ok, noR_ite, go_opD, go_cmpB, go_cmp, go_isi, go_neg, go_rdL_nil, go_rdL_cons, go_fzL_nil, go_fzL_cons, go_bi1, go_bi2, go_slc, go_tup, go_disp, go_fz, go_seqL, go_seqT, go_enumL, go_enumT, go_zipTT, go_zipLL, go_zipTL, go_zipLT, Nat.sub_self, go_sclS, go_scsS, go_listT, go_listL, go_new, gc_d, gc_ite, take_len, take_app, go_newDc, chkDc_s, modDc_s, go_keyS, go_keyI, go_starT, go_starL, List.set_cons_zero, List.set_cons_succ, List.map_cons, List.map_nil, List.cons_append, List.nil_append, List.replicate_succ, List.replicate_zero, List.length_cons, List.length_nil, Tgs.len, wipeR, List.getD_cons_zero, List.getD_cons_succ, m1, m2, go_rngN (show max 1 (min is.length 3) ≤ 1000 by omega)]
    refine rw_gc (rw_bind (rw_compT (fun i : Nat => .int (i : Int)) (fun rem acc s' => ∃ k : List Unit, acc = k.map fun _ => .bool true) _ _ _ ?h0 ?hl ?hs ?hd))
    case h0 => exact ⟨[], rfl⟩
    case hl => rw [List.length_nil, List.length_range]; unfold SZ; omega
    case hs =>
      rintro i r acc s' hi ⟨k, rfl⟩
      simp only [den_cons, den_nil, denS, denE, denA, denO, denL, denI, denT, denTs, denC, go_bind, go_pure, go_bad, bindR_ok, bindR_bad, bindR_bindR, bindR_ite, go_ite, go_ofS, go_rdD, go_fzD, go_asB, go_asI, go_slot, slot_s, go_slotF, slotF_s, go_noX, noR_ok, noR_ite, go_opD, go_cmpB, go_cmp, go_isi, go_neg, go_rdL_nil, go_rdL_cons, go_fzL_nil, go_fzL_cons, go_bi1, go_bi2, go_slc, go_tup, go_disp, go_fz, go_seqL, go_seqT, go_enumL, go_enumT, go_zipTT, go_zipLL, go_zipTL, go_zipLT, Nat.sub_self, go_sclS, go_scsS, go_listT, go_listL, go_new, gc_d, gc_ite, take_len, take_app, go_newDc, chkDc_s, modDc_s, go_keyS, go_keyI, go_starT, go_starL, List.set_cons_zero, List.set_cons_succ, List.map_cons, List.map_nil, List.cons_append, List.nil_append, List.replicate_succ, List.replicate_zero, List.length_cons, List.length_nil, Tgs.len, wipeR, List.getD_cons_zero, List.getD_cons_succ, if_true]
      refine rw_noR (rw_bind ((u_urn is i 58 s').mono ?_))
      rintro w s2 ⟨rfl, v, hv, rfl⟩
      have hw : Wat s'.length (s' ++ [.lst v]) := ⟨v, hv, get_last _ _⟩
      refine rw_bind ((w_right hw 39).mono ?_)
      rintro w s3 ⟨rfl, dr⟩
      simp only [den_cons, den_nil, denS, denE, denA, denO, denL, denI, denT, denTs, denC, go_bind, go_pure, go_bad, bindR_ok, bindR_bad, bindR_bindR, bindR_ite, go_ite, go_ofS, go_rdD, go_fzD, go_asB, go_asI, go_slot, slot_s, go_slotF, slotF_s, go_noX, noR_ok, noR_ite, go_opD, go_cmpB, go_cmp, go_isi, go_neg, go_rdL_nil, go_rdL_cons, go_fzL_nil, go_fzL_cons, go_bi1, go_bi2, go_slc, go_tup, go_disp, go_fz, go_seqL, go_seqT, go_enumL, go_enumT, go_zipTT, go_zipLL, go_zipTL, go_zipLT, Nat.sub_self, go_sclS, go_scsS, go_listT, go_listL, go_new, gc_d, gc_ite, take_len, take_app, go_newDc, chkDc_s, modDc_s, go_keyS, go_keyI, go_starT, go_starL, List.set_cons_zero, List.set_cons_succ, List.map_cons, List.map_nil, List.cons_append, List.nil_append, List.replicate_succ, List.replicate_zero, List.length_cons, List.length_nil, Tgs.len, wipeR, List.getD_cons_zero, List.getD_cons_succ]
      exact ⟨k ++ [()], by rw [List.map_append]; rfl⟩
    case hd =>
      rintro acc s' ⟨k, rfl⟩
      simp only [den_cons, den_nil, denS, denE, denA, denO, denL, denI, denT, denTs, denC, go_bind, go_pure, go_bad, bindR_ok, bindR_bad, bindR_bindR, bindR_ite, go_ite, go_ofS, go_rdD, go_fzD, go_asB, go_asI, go_slot, slot_s, go_slotF, slotF_s, go_noX, noR_ok, noR_ite, go_opD, go_cmpB, go_cmp, go_isi, go_neg, go_rdL_nil, go_rdL_cons, go_fzL_nil, go_fzL_cons, go_bi1, go_bi2, go_slc, go_tup, go_disp, go_fz, go_seqL, go_seqT, go_enumL, go_enumT, go_zipTT, go_zipLL, go_zipTL, go_zipLT, Nat.sub_self, go_sclS, go_scsS, go_listT, go_listL, go_new, gc_d, gc_ite, take_len, take_app, go_newDc, chkDc_s, modDc_s, go_keyS, go_keyI, go_starT, go_starL, List.set_cons_zero, List.set_cons_succ, List.map_cons, List.map_nil, List.cons_append, List.nil_append, List.replicate_succ, List.replicate_zero, List.length_cons, List.length_nil, Tgs.len, wipeR, List.getD_cons_zero, List.getD_cons_succ, all_true]
      exact rfl
  cases e : run tab 60 F_law [.s is] [] with
  | ok w s' =>
    have key : RWp (run tab 60 F_law [.s is] []) fun w s' => w = .d (.bool true) := key
    rw [e] at key
    have key : w = .d (.bool true) := key
    exact ⟨s', by rw [key]⟩
  | exc c d s =>
    have key : RWp (run tab 60 F_law [.s is] []) fun w s' => w = .d (.bool true) := key
    rw [e] at key
    exact key.elim
  | bad =>
    have key : RWp (run tab 60 F_law [.s is] []) fun w s' => w = .d (.bool true) := key
    rw [e] at key
    exact key.elim
end Gk
namespace Gk
open PySem PySem.Spec PyProof.Rows L2 Gd
def top (i : Nat) : Stmt := PySem.Challenge.pw_gradehouse_k66_whole_schemes.main.body.getD i (.Pass ⟨0, 0, 0, 0⟩)
def d0 : He.DefD := ⟨("is_whole", none), "is_whole", "is_whole", defArgs (top 9), defBody (top 9), defScope (top 9), [], []⟩
def d1 : He.DefD := ⟨("is_number", none), "is_number", "is_number", defArgs (top 10), defBody (top 10), defScope (top 10), [], []⟩
def d2 : He.DefD := ⟨("greatest_divisor", none), "greatest_divisor", "greatest_divisor", defArgs (top 11), defBody (top 11), defScope (top 11), [], []⟩
def d3 : He.DefD := ⟨("lowest", none), "lowest", "lowest", defArgs (top 12), defBody (top 12), defScope (top 12), [], []⟩
def d4 : He.DefD := ⟨("is_tuple_of", none), "is_tuple_of", "is_tuple_of", defArgs (top 13), defBody (top 13), defScope (top 13), [], []⟩
def d5 : He.DefD := ⟨("is_ascending", none), "is_ascending", "is_ascending", defArgs (top 14), defBody (top 14), defScope (top 14), [], []⟩
def d6 : He.DefD := ⟨("wrong_at", none), "wrong_at", "wrong_at", defArgs (top 15), defBody (top 15), defScope (top 15), [], []⟩
def d7 : He.DefD := ⟨("is_letters", none), "is_letters", "is_letters", defArgs (top 16), defBody (top 16), defScope (top 16), [], []⟩
def d8 : He.DefD := ⟨("is_name", none), "is_name", "is_name", defArgs (top 17), defBody (top 17), defScope (top 17), [], []⟩
def d9 : He.DefD := ⟨("is_one_of", none), "is_one_of", "is_one_of", defArgs (top 18), defBody (top 18), defScope (top 18), [], []⟩
def d10 : He.DefD := ⟨("are_works", none), "are_works", "are_works", defArgs (top 26), defBody (top 26), defScope (top 26), [], []⟩
def d11 : He.DefD := ⟨("is_weight", none), "is_weight", "is_weight", defArgs (top 27), defBody (top 27), defScope (top 27), [], []⟩
def d12 : He.DefD := ⟨("is_term", none), "is_term", "is_term", defArgs (top 28), defBody (top 28), defScope (top 28), [], []⟩
def d13 : He.DefD := ⟨("is_pick", none), "is_pick", "is_pick", defArgs (top 29), defBody (top 29), defScope (top 29), [], []⟩
def d14 : He.DefD := ⟨("is_tree_form", none), "is_tree_form", "is_tree_form", defArgs (top 30), defBody (top 30), defScope (top 30), [], []⟩
def d15 : He.DefD := ⟨("trees_in", none), "trees_in", "trees_in", defArgs (top 31), defBody (top 31), defScope (top 31), [], []⟩
def d16 : He.DefD := ⟨("nodes_in", none), "nodes_in", "nodes_in", defArgs (top 32), defBody (top 32), defScope (top 32), [], []⟩
def d17 : He.DefD := ⟨("all_works_in", none), "all_works_in", "all_works_in", defArgs (top 33), defBody (top 33), defScope (top 33), [], []⟩
def d18 : He.DefD := ⟨("works_in", none), "works_in", "works_in", defArgs (top 34), defBody (top 34), defScope (top 34), [], []⟩
def d19 : He.DefD := ⟨("is_tree", none), "is_tree", "is_tree", defArgs (top 35), defBody (top 35), defScope (top 35), [], []⟩
def d20 : He.DefD := ⟨("value_of", none), "value_of", "value_of", defArgs (top 36), defBody (top 36), defScope (top 36), [], []⟩
def d21 : He.DefD := ⟨("is_rule_form", none), "is_rule_form", "is_rule_form", defArgs (top 39), defBody (top 39), defScope (top 39), [], []⟩
def d22 : He.DefD := ⟨("works_of_all", none), "works_of_all", "works_of_all", defArgs (top 40), defBody (top 40), defScope (top 40), [], []⟩
def d23 : He.DefD := ⟨("is_score", none), "is_score", "is_score", defArgs (top 41), defBody (top 41), defScope (top 41), [], []⟩
def d24 : He.DefD := ⟨("is_behind", none), "is_behind", "is_behind", defArgs (top 42), defBody (top 42), defScope (top 42), [], []⟩
def d25 : He.DefD := ⟨("is_mark", none), "is_mark", "is_mark", defArgs (top 43), defBody (top 43), defScope (top 43), [], []⟩
def d26 : He.DefD := ⟨("wrong_marks", none), "wrong_marks", "wrong_marks", defArgs (top 44), defBody (top 44), defScope (top 44), [], []⟩
def d27 : He.DefD := ⟨("check_marks", none), "check_marks", "check_marks", defArgs (top 45), defBody (top 45), defScope (top 45), [], []⟩
def d28 : He.DefD := ⟨("check_scores_of", none), "check_scores_of", "check_scores_of", defArgs (top 46), defBody (top 46), defScope (top 46), [], []⟩
def d29 : He.DefD := ⟨("check_schemes", none), "check_schemes", "check_schemes", defArgs (top 49), defBody (top 49), defScope (top 49), [], []⟩
def d30 : He.DefD := ⟨("is_better", none), "is_better", "is_better", defArgs (top 50), defBody (top 50), defScope (top 50), [], []⟩
def d31 : He.DefD := ⟨("best_at", none), "best_at", "best_at", defArgs (top 51), defBody (top 51), defScope (top 51), [], []⟩
def d32 : He.DefD := ⟨("grades_by", none), "grades_by", "grades_by", defArgs (top 52), defBody (top 52), defScope (top 52), [], []⟩
def d33 : He.DefD := ⟨("scheme_grade", none), "scheme_grade", "scheme_grade", defArgs (top 53), defBody (top 53), defScope (top 53), [], []⟩
def d34 : He.DefD := ⟨("best_scheme", none), "best_scheme", "best_scheme", defArgs (top 54), defBody (top 54), defScope (top 54), [], []⟩
def d35 : He.DefD := ⟨("_law_urn", none), "_law_urn", "_law_urn", defArgs (top 56), defBody (top 56), defScope (top 56), [], []⟩
def d36 : He.DefD := ⟨("_law_take", none), "_law_take", "_law_take", defArgs (top 57), defBody (top 57), defScope (top 57), [], []⟩
def d37 : He.DefD := ⟨("_law_of", none), "_law_of", "_law_of", defArgs (top 58), defBody (top 58), defScope (top 58), [], []⟩
def d38 : He.DefD := ⟨("_law_names", none), "_law_names", "_law_names", defArgs (top 59), defBody (top 59), defScope (top 59), [], []⟩
def d39 : He.DefD := ⟨("_law_simple", none), "_law_simple", "_law_simple", defArgs (top 60), defBody (top 60), defScope (top 60), [], []⟩
def d40 : He.DefD := ⟨("_law_rule", none), "_law_rule", "_law_rule", defArgs (top 61), defBody (top 61), defScope (top 61), [], []⟩
def d41 : He.DefD := ⟨("_law_value", none), "_law_value", "_law_value", defArgs (top 62), defBody (top 62), defScope (top 62), [], []⟩
def d42 : He.DefD := ⟨("_law_lowest", none), "_law_lowest", "_law_lowest", defArgs (top 63), defBody (top 63), defScope (top 63), [], []⟩
def d43 : He.DefD := ⟨("_law_scores", none), "_law_scores", "_law_scores", defArgs (top 64), defBody (top 64), defScope (top 64), [], []⟩
def d44 : He.DefD := ⟨("_law_schemes", none), "_law_schemes", "_law_schemes", defArgs (top 65), defBody (top 65), defScope (top 65), [], []⟩
def d45 : He.DefD := ⟨("_law_best", none), "_law_best", "_law_best", defArgs (top 66), defBody (top 66), defScope (top 66), [], []⟩
def d46 : He.DefD := ⟨("_law_right", none), "_law_right", "_law_right", defArgs (top 67), defBody (top 67), defScope (top 67), [], []⟩
def d47 : He.DefD := ⟨("law", none), "law", "law", defArgs (top 68), defBody (top 68), defScope (top 68), [], []⟩
def fn_0 : List He.DefD := [d0, d1, d2, d3, d4, d5, d6, d7, d8, d9, d10, d11, d12, d13, d14, d15, d16, d17, d18, d19]
def fn_1 : List He.DefD := [d20, d21, d22, d23, d24, d25, d26, d27, d28, d29, d30, d31, d32, d33, d34, d35, d36, d37, d38, d39]
def fn_2 : List He.DefD := [d40, d41, d42, d43, d44, d45, d46, d47]
def fn : List He.DefD := fn_0 ++ fn_1 ++ fn_2
def nmL_0 : List Str := ["is_whole", "is_number", "greatest_divisor", "lowest", "is_tuple_of", "is_ascending", "wrong_at", "is_letters", "is_name", "is_one_of", "are_works", "is_weight", "is_term", "is_pick", "is_tree_form", "trees_in", "nodes_in", "all_works_in", "works_in", "is_tree"]
def nmL_1 : List Str := ["value_of", "is_rule_form", "works_of_all", "is_score", "is_behind", "is_mark", "wrong_marks", "check_marks", "check_scores_of", "check_schemes", "is_better", "best_at", "grades_by", "scheme_grade", "best_scheme", "_law_urn", "_law_take", "_law_of", "_law_names", "_law_simple"]
def nmL_2 : List Str := ["_law_rule", "_law_value", "_law_lowest", "_law_scores", "_law_schemes", "_law_best", "_law_right", "law"]
def nmL : List Str := nmL_0 ++ nmL_1 ++ nmL_2
def psL_0 : List (List Str) := [["value"], ["value", "low", "high"], ["one", "other"], ["number", "scale"], ["value", "many"], ["values"], ["values", "most", "is_right"], ["value", "least", "most"], ["value"], ["value", "words"], ["value"], ["value"], ["value", "levels"], ["value"], ["value", "levels"], ["tree"], ["tree"], ["tree"], ["tree"], ["value"]]
def psL_1 : List (List Str) := [["tree", "known"], ["value"], ["rules"], ["value"], ["value", "before"], ["value", "before"], ["value"], ["value"], ["works", "value"], ["value"], ["one", "other"], ["grades"], ["schemes", "scores"], ["schemes", "scores"], ["schemes", "scores"], ["script", "lap"], ["urn", "many"], ["urn", "some"], ["urn", "many"], ["urn", "works"]]
def psL_2 : List (List Str) := [["urn", "works", "is_up"], ["tree", "known"], ["number", "scale"], ["urn", "works"], ["urn", "works", "is_up"], ["schemes", "known"], ["urn"], ["script"]]
def psL : List (List Str) := psL_0 ++ psL_1 ++ psL_2
def gsL_0 : List (Str × PyData) := [("SMALL_LETTERS", (.str "abcdefghijklmnopqrstuvwxyz")), ("MOST_IN_NAME", (.int 8)), ("WORDS", (.tuple ([(.str "all"), (.str "at"), (.str "best"), (.str "by"), (.str "close"), (.str "correct"), (.str "day"), (.str "each"), (.str "from"), (.str "grade"), (.str "hurdle"), (.str "least"), (.str "letter"), (.str "mark"), (.str "may"), (.str "names"), (.str "needs"), (.str "never"), (.str "no"), (.str "none")] ++ [(.str "not"), (.str "of"), (.str "open"), (.str "over"), (.str "rank"), (.str "rule"), (.str "scale"), (.str "score"), (.str "sum"), (.str "sure"), (.str "to"), (.str "with"), (.str "work"), (.str "works")]))), ("MOST_NODES", (.int 14)), ("MOST_LEVELS", (.int 4)), ("MOST_WORKS", (.int 9)), ("MOST_TERMS", (.int 9)), ("MOST_WEIGHT", (.int 100)), ("MOST_SCALE", (.int 1000000)), ("MOST_SCORE", (.int 100)), ("MOST_SCHEMES", (.int 4))]
def gsL : List (Str × PyData) := gsL_0
def k0 : Ck := ⟨[], ⟨.function, [], false, false, []⟩, nmL, psL, gsL, true⟩
theorem ok0 : fnB k0 0 d0 D_is_whole = true := by decide +kernel
theorem ok1 : fnB k0 1 d1 D_is_number = true := by decide +kernel
theorem ok2 : fnB k0 2 d2 D_greatest_divisor = true := by decide +kernel
theorem ok3 : fnB k0 3 d3 D_lowest = true := by decide +kernel
theorem ok4 : fnB k0 4 d4 D_is_tuple_of = true := by decide +kernel
theorem ok5 : fnB k0 5 d5 D_is_ascending = true := by decide +kernel
theorem ok6 : fnB k0 6 d6 D_wrong_at = true := by decide +kernel
theorem ok7 : fnB k0 7 d7 D_is_letters = true := by decide +kernel
theorem ok8 : fnB k0 8 d8 D_is_name = true := by decide +kernel
theorem ok9 : fnB k0 9 d9 D_is_one_of = true := by decide +kernel
theorem ok10 : fnB k0 10 d10 D_are_works = true := by decide +kernel
theorem ok11 : fnB k0 11 d11 D_is_weight = true := by decide +kernel
theorem ok12 : fnB k0 12 d12 D_is_term = true := by decide +kernel
theorem ok13 : fnB k0 13 d13 D_is_pick = true := by decide +kernel
theorem ok14 : fnB k0 14 d14 D_is_tree_form = true := by decide +kernel
theorem ok15 : fnB k0 15 d15 D_trees_in = true := by decide +kernel
theorem ok16 : fnB k0 16 d16 D_nodes_in = true := by decide +kernel
theorem ok17 : fnB k0 17 d17 D_all_works_in = true := by decide +kernel
theorem ok18 : fnB k0 18 d18 D_works_in = true := by decide +kernel
theorem ok19 : fnB k0 19 d19 D_is_tree = true := by decide +kernel
theorem ok20 : fnB k0 20 d20 D_value_of = true := by decide +kernel
theorem ok21 : fnB k0 21 d21 D_is_rule_form = true := by decide +kernel
theorem ok22 : fnB k0 22 d22 D_works_of_all = true := by decide +kernel
theorem ok23 : fnB k0 23 d23 D_is_score = true := by decide +kernel
theorem ok24 : fnB k0 24 d24 D_is_behind = true := by decide +kernel
theorem ok25 : fnB k0 25 d25 D_is_mark = true := by decide +kernel
theorem ok26 : fnB k0 26 d26 D_wrong_marks = true := by decide +kernel
theorem ok27 : fnB k0 27 d27 D_check_marks = true := by decide +kernel
theorem ok28 : fnB k0 28 d28 D_check_scores_of = true := by decide +kernel
theorem ok29 : fnB k0 29 d29 D_check_schemes = true := by decide +kernel
theorem ok30 : fnB k0 30 d30 D_is_better = true := by decide +kernel
theorem ok31 : fnB k0 31 d31 D_best_at = true := by decide +kernel
theorem ok32 : fnB k0 32 d32 D_grades_by = true := by decide +kernel
theorem ok33 : fnB k0 33 d33 D_scheme_grade = true := by decide +kernel
theorem ok34 : fnB k0 34 d34 D_best_scheme = true := by decide +kernel
theorem ok35 : fnB k0 35 d35 D__law_urn = true := by decide +kernel
theorem ok36 : fnB k0 36 d36 D__law_take = true := by decide +kernel
theorem ok37 : fnB k0 37 d37 D__law_of = true := by decide +kernel
theorem ok38 : fnB k0 38 d38 D__law_names = true := by decide +kernel
theorem ok39 : fnB k0 39 d39 D__law_simple = true := by decide +kernel
theorem ok40 : fnB k0 40 d40 D__law_rule = true := by decide +kernel
theorem ok41 : fnB k0 41 d41 D__law_value = true := by decide +kernel
theorem ok42 : fnB k0 42 d42 D__law_lowest = true := by decide +kernel
theorem ok43 : fnB k0 43 d43 D__law_scores = true := by decide +kernel
theorem ok44 : fnB k0 44 d44 D__law_schemes = true := by decide +kernel
theorem ok45 : fnB k0 45 d45 D__law_best = true := by decide +kernel
theorem ok46 : fnB k0 46 d46 D__law_right = true := by decide +kernel
theorem ok47 : fnB k0 47 d47 D_law = true := by decide +kernel
def nms_0 : List Str := ["is_whole", "is_number", "greatest_divisor", "lowest", "is_tuple_of", "is_ascending", "wrong_at", "is_letters", "is_name", "is_one_of", "are_works", "is_weight", "is_term", "is_pick", "is_tree_form", "trees_in", "nodes_in", "all_works_in", "works_in", "is_tree"]
def nms_1 : List Str := ["value_of", "is_rule_form", "works_of_all", "is_score", "is_behind", "is_mark", "wrong_marks", "check_marks", "check_scores_of", "check_schemes", "is_better", "best_at", "grades_by", "scheme_grade", "best_scheme", "_law_urn", "_law_take", "_law_of", "_law_names", "_law_simple"]
def nms_2 : List Str := ["_law_rule", "_law_value", "_law_lowest", "_law_scores", "_law_schemes", "_law_best", "_law_right", "GradeError", "InvalidSchemes", "LackingScore", "InvalidMarks", "SMALL_LETTERS", "MOST_IN_NAME", "WORDS", "MOST_NODES", "MOST_LEVELS", "MOST_WORKS", "MOST_TERMS", "MOST_WEIGHT", "MOST_SCALE"]
def nms_3 : List Str := ["MOST_SCORE", "MOST_SCHEMES"]
def nms : List Str := nms_0 ++ nms_1 ++ nms_2 ++ nms_3
abbrev R : PySem.W.OpenRow := PySem.W.OpenLaw.row PySem.Challenge.rw_gradehouse_k66_whole_schemes
def fa : List He.Fa := mkFa k0.nm (("" : Str) :: bNames)
abbrev hk : PySem.W.Hook := He.hookX 6 fa fn [] [] (gsB gsL)
def ob (s : PySem.W.SharedT) : He.AlX := He.obsX 6 fa fn [] [] (gsB gsL) (HandSHeadRun.getT s)
theorem ob_eq (s : PySem.W.SharedT) : ob s = hk.obs s.abs := He.obsX_eq (HandSHeadRun.getT_eq s)
theorem run_eq (w : World) : HandSHeadRun.RunEq R (PySem.W.view R.prog [68]) hk ob 20000 nms w := by
  intro os
  kernel_rfl
abbrev lawI : Nat := 47
theorem oks : ∀ (f : Nat) (d : He.DefD) (q : FD × List Str), fn[f]? = some d → fs[f]? = some q → fnB k0 f d q = true
  | 0, d, q, h1, h2 => (Option.some.inj h1 : d0 = d) ▸ (Option.some.inj h2 : D_is_whole = q) ▸ ok0
  | 1, d, q, h1, h2 => (Option.some.inj h1 : d1 = d) ▸ (Option.some.inj h2 : D_is_number = q) ▸ ok1
  | 2, d, q, h1, h2 => (Option.some.inj h1 : d2 = d) ▸ (Option.some.inj h2 : D_greatest_divisor = q) ▸ ok2
  | 3, d, q, h1, h2 => (Option.some.inj h1 : d3 = d) ▸ (Option.some.inj h2 : D_lowest = q) ▸ ok3
  | 4, d, q, h1, h2 => (Option.some.inj h1 : d4 = d) ▸ (Option.some.inj h2 : D_is_tuple_of = q) ▸ ok4
  | 5, d, q, h1, h2 => (Option.some.inj h1 : d5 = d) ▸ (Option.some.inj h2 : D_is_ascending = q) ▸ ok5
  | 6, d, q, h1, h2 => (Option.some.inj h1 : d6 = d) ▸ (Option.some.inj h2 : D_wrong_at = q) ▸ ok6
  | 7, d, q, h1, h2 => (Option.some.inj h1 : d7 = d) ▸ (Option.some.inj h2 : D_is_letters = q) ▸ ok7
  | 8, d, q, h1, h2 => (Option.some.inj h1 : d8 = d) ▸ (Option.some.inj h2 : D_is_name = q) ▸ ok8
  | 9, d, q, h1, h2 => (Option.some.inj h1 : d9 = d) ▸ (Option.some.inj h2 : D_is_one_of = q) ▸ ok9
  | 10, d, q, h1, h2 => (Option.some.inj h1 : d10 = d) ▸ (Option.some.inj h2 : D_are_works = q) ▸ ok10
  | 11, d, q, h1, h2 => (Option.some.inj h1 : d11 = d) ▸ (Option.some.inj h2 : D_is_weight = q) ▸ ok11
  | 12, d, q, h1, h2 => (Option.some.inj h1 : d12 = d) ▸ (Option.some.inj h2 : D_is_term = q) ▸ ok12
  | 13, d, q, h1, h2 => (Option.some.inj h1 : d13 = d) ▸ (Option.some.inj h2 : D_is_pick = q) ▸ ok13
  | 14, d, q, h1, h2 => (Option.some.inj h1 : d14 = d) ▸ (Option.some.inj h2 : D_is_tree_form = q) ▸ ok14
  | 15, d, q, h1, h2 => (Option.some.inj h1 : d15 = d) ▸ (Option.some.inj h2 : D_trees_in = q) ▸ ok15
  | 16, d, q, h1, h2 => (Option.some.inj h1 : d16 = d) ▸ (Option.some.inj h2 : D_nodes_in = q) ▸ ok16
  | 17, d, q, h1, h2 => (Option.some.inj h1 : d17 = d) ▸ (Option.some.inj h2 : D_all_works_in = q) ▸ ok17
  | 18, d, q, h1, h2 => (Option.some.inj h1 : d18 = d) ▸ (Option.some.inj h2 : D_works_in = q) ▸ ok18
  | 19, d, q, h1, h2 => (Option.some.inj h1 : d19 = d) ▸ (Option.some.inj h2 : D_is_tree = q) ▸ ok19
  | 20, d, q, h1, h2 => (Option.some.inj h1 : d20 = d) ▸ (Option.some.inj h2 : D_value_of = q) ▸ ok20
  | 21, d, q, h1, h2 => (Option.some.inj h1 : d21 = d) ▸ (Option.some.inj h2 : D_is_rule_form = q) ▸ ok21
  | 22, d, q, h1, h2 => (Option.some.inj h1 : d22 = d) ▸ (Option.some.inj h2 : D_works_of_all = q) ▸ ok22
  | 23, d, q, h1, h2 => (Option.some.inj h1 : d23 = d) ▸ (Option.some.inj h2 : D_is_score = q) ▸ ok23
  | 24, d, q, h1, h2 => (Option.some.inj h1 : d24 = d) ▸ (Option.some.inj h2 : D_is_behind = q) ▸ ok24
  | 25, d, q, h1, h2 => (Option.some.inj h1 : d25 = d) ▸ (Option.some.inj h2 : D_is_mark = q) ▸ ok25
  | 26, d, q, h1, h2 => (Option.some.inj h1 : d26 = d) ▸ (Option.some.inj h2 : D_wrong_marks = q) ▸ ok26
  | 27, d, q, h1, h2 => (Option.some.inj h1 : d27 = d) ▸ (Option.some.inj h2 : D_check_marks = q) ▸ ok27
  | 28, d, q, h1, h2 => (Option.some.inj h1 : d28 = d) ▸ (Option.some.inj h2 : D_check_scores_of = q) ▸ ok28
  | 29, d, q, h1, h2 => (Option.some.inj h1 : d29 = d) ▸ (Option.some.inj h2 : D_check_schemes = q) ▸ ok29
  | 30, d, q, h1, h2 => (Option.some.inj h1 : d30 = d) ▸ (Option.some.inj h2 : D_is_better = q) ▸ ok30
  | 31, d, q, h1, h2 => (Option.some.inj h1 : d31 = d) ▸ (Option.some.inj h2 : D_best_at = q) ▸ ok31
  | 32, d, q, h1, h2 => (Option.some.inj h1 : d32 = d) ▸ (Option.some.inj h2 : D_grades_by = q) ▸ ok32
  | 33, d, q, h1, h2 => (Option.some.inj h1 : d33 = d) ▸ (Option.some.inj h2 : D_scheme_grade = q) ▸ ok33
  | 34, d, q, h1, h2 => (Option.some.inj h1 : d34 = d) ▸ (Option.some.inj h2 : D_best_scheme = q) ▸ ok34
  | 35, d, q, h1, h2 => (Option.some.inj h1 : d35 = d) ▸ (Option.some.inj h2 : D__law_urn = q) ▸ ok35
  | 36, d, q, h1, h2 => (Option.some.inj h1 : d36 = d) ▸ (Option.some.inj h2 : D__law_take = q) ▸ ok36
  | 37, d, q, h1, h2 => (Option.some.inj h1 : d37 = d) ▸ (Option.some.inj h2 : D__law_of = q) ▸ ok37
  | 38, d, q, h1, h2 => (Option.some.inj h1 : d38 = d) ▸ (Option.some.inj h2 : D__law_names = q) ▸ ok38
  | 39, d, q, h1, h2 => (Option.some.inj h1 : d39 = d) ▸ (Option.some.inj h2 : D__law_simple = q) ▸ ok39
  | 40, d, q, h1, h2 => (Option.some.inj h1 : d40 = d) ▸ (Option.some.inj h2 : D__law_rule = q) ▸ ok40
  | 41, d, q, h1, h2 => (Option.some.inj h1 : d41 = d) ▸ (Option.some.inj h2 : D__law_value = q) ▸ ok41
  | 42, d, q, h1, h2 => (Option.some.inj h1 : d42 = d) ▸ (Option.some.inj h2 : D__law_lowest = q) ▸ ok42
  | 43, d, q, h1, h2 => (Option.some.inj h1 : d43 = d) ▸ (Option.some.inj h2 : D__law_scores = q) ▸ ok43
  | 44, d, q, h1, h2 => (Option.some.inj h1 : d44 = d) ▸ (Option.some.inj h2 : D__law_schemes = q) ▸ ok44
  | 45, d, q, h1, h2 => (Option.some.inj h1 : d45 = d) ▸ (Option.some.inj h2 : D__law_best = q) ▸ ok45
  | 46, d, q, h1, h2 => (Option.some.inj h1 : d46 = d) ▸ (Option.some.inj h2 : D__law_right = q) ▸ ok46
  | 47, d, q, h1, h2 => (Option.some.inj h1 : d47 = d) ▸ (Option.some.inj h2 : D_law = q) ▸ ok47
  | m + 48, d, q, h1, h2 => by cases h1
end Gk
open PySem PySem.W PySem.Calls PyProof.Rows
theorem PySem.Challenge.cw_gradehouse_k66_whole_schemes_holds : PySem.Challenge.rw_gradehouse_k66_whole_schemes.Holds := by
  w_on; o_law
  refine HandSHeadRun.head_any (r := OpenLaw.row PySem.Challenge.rw_gradehouse_k66_whole_schemes) (q := view (OpenLaw.row PySem.Challenge.rw_gradehouse_k66_whole_schemes).prog [68]) (H := Gk.hk) (ob := Gk.ob) (M := 20000) (loose := Gk.nms) (d := HandSHeadRun.topDef (OpenLaw.row PySem.Challenge.rw_gradehouse_k66_whole_schemes).prog 68) (kwd := []) Gk.ob_eq
    (by kernel_rfl) (fun s => by kernel_rfl) Gk.run_eq (by kernel_rfl) (by kernel_rfl) (by kernel_rfl) (by rfl) (by first | assumption | decide +kernel) (by decide +kernel) ⟨rfl, rfl, rfl, rfl, rfl, by decide +kernel⟩ ?hw ?hc
  case hw => w_witness2
  case hc =>
    refine Gd.walkG (l := PySem.Challenge.rw_gradehouse_k66_whole_schemes) (m := 63) (n := 60) (tab := Gk.tab) (k0 := Gk.k0) (f0 := Gk.lawI) (x := "script") rfl (by decide) (by kernel_rfl) ⟨rfl, by decide, by decide⟩ (by decide +kernel) (by kernel_rfl) (by kernel_rfl) ?tb Gk.law_ok
    intro w mg h Y G
    obtain ⟨K, KX, c⟩ := Y
    exact ⟨K, KX, Gd.tab_of KX G c.t.d c.more (by kernel_rfl) (by kernel_rfl) Gk.oks⟩
