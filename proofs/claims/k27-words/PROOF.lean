import PyProof.Rows.All
import Wide.All
import OpenK.AllK
import Wide.FinOn
import KE.KStateDown
import HandS.ForMost
import HandS.ExcCtx
import HandS.Flow
import HandS.WideBits
import HandS.Text
import HandS.Style
import HandS.TupAny
import HandS.IsInst
import HandS.RaiseMore
import HandS.NoneIn
import HandS.Defaults
import HandS.FStr
import HandS.Replace
import HandS.Codes
import HandS.Head0
import HandS.Head1
import HandS.Head2
import HandS.HeadEnd
import HandS.HeadHook1
import HandS.HeadHook2
import HandS.Words
import PySem.Challenge.RW_corneralike_k27_words
set_option Elab.async false
set_option linter.all false
set_option maxRecDepth 100000
set_option maxHeartbeats 0
/-! DL1: plain data, owned trees, and how they lie in the abstract heap. -/
namespace DL
open PySem PySem.Spec
open PyProof.Rows L2

/-- plain data: what never changes again -/
inductive D where
  | non | bl (b : Bool) | int (i : Int) | str (s : List Nat) | ty (n : String) | glo (x : String)
  | lst (xs : List D) | klst (xs : List D) | tup (xs : List D) | cel (xs : List D)
  | ins (c : String) (fs : List (String × D))
  | dct (kvs : List (Key × D))
/-- a value with its owned parts: ol, ot, oi, od are objects that nobody else holds; sto the law's store; at_ what slot i holds -/
inductive W where
  | d (x : D)
  | ol (ws : List W) | ot (ws : List W)
  | oi (c : String) (fs : List (String × W))
  | od (kvs : List (Key × W))
  | sto | exn | at_ (i : Nat) | hole
  | oL (ws : List W)

mutual
def fz : W → D
  | .d x => x
  | .ol ws => .lst (fzs ws)
  | .ot ws => .tup (fzs ws)
  | .oi c fs => .ins c (fzf fs)
  | .od kvs => .dct (fzk kvs)
  | .sto => .non
  | .exn => .non
  | .at_ _ => .non
  | .hole => .non
  | .oL ws => .lst (fzs ws)
def fzs : List W → List D
  | [] => []
  | w :: ws => fz w :: fzs ws
def fzf : List (String × W) → List (String × D)
  | [] => []
  | (n, w) :: ws => (n, fz w) :: fzf ws
def fzk : List (Key × W) → List (Key × D)
  | [] => []
  | (n, w) :: ws => (n, fz w) :: fzk ws
end

/-- a caught error: its address, its class, its attributes, its own dict -/
structure ExI where
  a : Addr
  c : String
  fs : List (String × D)
  d : Option Addr
/-- where one stands: the written part, the module's names, the entry's heap and frozen part, the store's address -/
structure Z where
  K : PySem.W.Frag
  mg : Str → Option Value
  H0 : Hp
  G0 : Hp
  s : Option Addr
  op : Bool := false
  ex : Option ExI := none
  sv : Option V := none
  pin : Option Addr := none

section
variable (z : Z)
mutual
def Rep (G : Hp) : D → V → Prop
  | .non, v => v = .non
  | .bl b, v => v = .bl b
  | .int i, v => v = .int i
  | .str s, v => v = .str ⟨s.toArray⟩
  | .ty n, v => v = .ty n
  | .glo x, v => ∃ a, z.mg (Str.ofString x) = some (.ref a) ∧ v = .ref a
  | .lst xs, v => ∃ a vs, v = .ref a ∧ G a = some (.lst vs) ∧ Reps G xs vs
  | .klst xs, v => ∃ a vs, v = .ref a ∧ SqL z.K G a vs ∧ Reps G xs vs
  | .tup xs, v => ∃ a vs, v = .ref a ∧ SqT z.K G a vs ∧ Reps G xs vs
  | .cel xs, v => z.sv = some v ∧ ∃ a vs, v = .ref a ∧ G a = some (.lst vs) ∧ Reps G xs vs
  | .ins c fs, v => ∃ a C dx vs, v = .ref a ∧ z.mg (Str.ofString c) = some (.ref C) ∧ G a = some (.ins C dx vs) ∧ G dx = some (.own a) ∧ RepF G fs vs
  | .dct kvs, v => ∃ a vs, v = .ref a ∧ G a = some (.dK vs) ∧ RepK G kvs vs
def Reps (G : Hp) : List D → List V → Prop
  | [], vs => vs = []
  | d :: ds, vs => ∃ v vs', vs = v :: vs' ∧ Rep G d v ∧ Reps G ds vs'
def RepF (G : Hp) : List (String × D) → List (Str × V) → Prop
  | [], vs => vs = []
  | (n, d) :: ds, vs => ∃ v vs', vs = (Str.ofString n, v) :: vs' ∧ Rep G d v ∧ RepF G ds vs'
def RepK (G : Hp) : List (Key × D) → List (Key × V) → Prop
  | [], vs => vs = []
  | (n, d) :: ds, vs => ∃ v vs', vs = (n, v) :: vs' ∧ Rep G d v ∧ RepK G ds vs'
end
mutual
def RepW (G H : Hp) : W → V → List Addr → Prop
  | .d x, v, as => as = [] ∧ Rep z G x v
  | .ol ws, v, as => ∃ a vs as', v = .ref a ∧ as = a :: as' ∧ H a = some (.lst vs) ∧ RepWs G H ws vs as'
  | .ot ws, v, as => ∃ a vs as', v = .ref a ∧ as = a :: as' ∧ H a = some (.tup vs) ∧ RepWs G H ws vs as'
  | .oi c fs, v, as => ∃ a C dx vs as', v = .ref a ∧ as = a :: dx :: as' ∧ z.mg (Str.ofString c) = some (.ref C) ∧ H a = some (.ins C dx vs) ∧ H dx = some (.own a) ∧ RepWf G H fs vs as'
  | .od kvs, v, as => ∃ a vs as', v = .ref a ∧ as = a :: as' ∧ H a = some (.dK vs) ∧ RepWk G H kvs vs as'
  | .sto, v, as => as = [] ∧ ∃ s, z.s = some s ∧ v = .ref s
  | .exn, v, as => as = [] ∧ ∃ i, z.ex = some i ∧ v = .ref i.a
  | .at_ _, _, _ => False
  | .hole, _, _ => False
  | .oL ws, v, as => ∃ a vs as', z.pin = some a ∧ v = .ref a ∧ as = a :: as' ∧ H a = some (.lst vs) ∧ RepWs G H ws vs as'
def RepWs (G H : Hp) : List W → List V → List Addr → Prop
  | [], vs, as => vs = [] ∧ as = []
  | w :: ws, vs, as => ∃ v vs' a1 a2, vs = v :: vs' ∧ as = a1 ++ a2 ∧ RepW G H w v a1 ∧ RepWs G H ws vs' a2
def RepWf (G H : Hp) : List (String × W) → List (Str × V) → List Addr → Prop
  | [], vs, as => vs = [] ∧ as = []
  | (n, w) :: ws, vs, as => ∃ v vs' a1 a2, vs = (Str.ofString n, v) :: vs' ∧ as = a1 ++ a2 ∧ RepW G H w v a1 ∧ RepWf G H ws vs' a2
def RepWk (G H : Hp) : List (Key × W) → List (Key × V) → List Addr → Prop
  | [], vs, as => vs = [] ∧ as = []
  | (n, w) :: ws, vs, as => ∃ v vs' a1 a2, vs = (n, v) :: vs' ∧ as = a1 ++ a2 ∧ RepW G H w v a1 ∧ RepWk G H ws vs' a2
end
end

theorem Same.tup {K : PySem.W.Frag} {H H' : Hp} {a : Addr} {xs : List V} (e : Same H H') (h : SqT K H a xs) : SqT K H' a xs := by
  rcases h with (h | ⟨o, h⟩) | h
  · exact .inl (.inl (e _ _ h))
  · exact .inl (.inr ⟨o, e _ _ h⟩)
  · exact .inr h

section
variable {z : Z} {G G' H H' : Hp}
mutual
theorem Rep.mono (h : Same G G') : ∀ {d : D} {v : V}, Rep z G d v → Rep z G' d v
  | .non, _, r => r
  | .bl _, _, r => r
  | .int _, _, r => r
  | .str _, _, r => r
  | .ty _, _, r => r
  | .glo _, _, r => r
  | .lst _, _, ⟨a, vs, e, s, r⟩ => ⟨a, vs, e, h _ _ s, Reps.mono h r⟩
  | .klst _, _, ⟨a, vs, e, s, r⟩ => ⟨a, vs, e, h.seq s, Reps.mono h r⟩
  | .tup _, _, ⟨a, vs, e, s, r⟩ => ⟨a, vs, e, Same.tup h s, Reps.mono h r⟩
  | .cel _, _, ⟨p, a, vs, e, s, r⟩ => ⟨p, a, vs, e, h _ _ s, Reps.mono h r⟩
  | .ins _ _, _, ⟨a, C, dx, vs, e, m, s, s2, r⟩ => ⟨a, C, dx, vs, e, m, h _ _ s, h _ _ s2, RepF.mono h r⟩
  | .dct _, _, ⟨a, vs, e, s, r⟩ => ⟨a, vs, e, h _ _ s, RepK.mono h r⟩
theorem Reps.mono (h : Same G G') : ∀ {d : List D} {v : List V}, Reps z G d v → Reps z G' d v
  | [], _, r => r
  | _ :: _, _, ⟨v, vs, e, r, q⟩ => ⟨v, vs, e, Rep.mono h r, Reps.mono h q⟩
theorem RepF.mono (h : Same G G') : ∀ {d : List (String × D)} {v : List (Str × V)}, RepF z G d v → RepF z G' d v
  | [], _, r => r
  | (_, _) :: _, _, ⟨v, vs, e, r, q⟩ => ⟨v, vs, e, Rep.mono h r, RepF.mono h q⟩
theorem RepK.mono (h : Same G G') : ∀ {d : List (Key × D)} {v : List (Key × V)}, RepK z G d v → RepK z G' d v
  | [], _, r => r
  | (_, _) :: _, _, ⟨v, vs, e, r, q⟩ => ⟨v, vs, e, Rep.mono h r, RepK.mono h q⟩
end
/-- the same but for Z's heaps -/
structure Z.like (z z' : Z) : Prop where
  k : z.K = z'.K
  m : z.mg = z'.mg
  v : ∀ v, z.sv = some v → z'.sv = some v
theorem Z.like_refl {z : Z} : z.like z := ⟨rfl, rfl, fun _ h => h⟩
/-- the store and the caught error of one are those of the other -/
def Z.sub (z z' : Z) : Prop := (∀ s, z.s = some s → z'.s = some s) ∧ (∀ i, z.ex = some i → z'.ex = some i) ∧ ∀ s, z.pin = some s → z'.pin = some s
theorem Z.sub_refl {z : Z} : z.sub z := ⟨fun _ h => h, fun _ h => h, fun _ h => h⟩
mutual
theorem Rep.like {z' : Z} (e : z.like z') : ∀ {d : D} {v : V}, Rep z G d v → Rep z' G d v
  | .non, _, r => r
  | .bl _, _, r => r
  | .int _, _, r => r
  | .str _, _, r => r
  | .ty _, _, r => r
  | .glo _, _, ⟨a, m, r⟩ => ⟨a, by rw [← e.m]; exact m, r⟩
  | .lst _, _, ⟨a, vs, q, s, r⟩ => ⟨a, vs, q, s, Reps.like e r⟩
  | .klst _, _, ⟨a, vs, q, s, r⟩ => ⟨a, vs, q, by rw [← e.k]; exact s, Reps.like e r⟩
  | .cel _, _, ⟨p, a, vs, q, s, r⟩ => ⟨e.v _ p, a, vs, q, s, Reps.like e r⟩
  | .tup _, _, ⟨a, vs, q, s, r⟩ => ⟨a, vs, q, by rw [← e.k]; exact s, Reps.like e r⟩
  | .ins _ _, _, ⟨a, C, dx, vs, q, m, s, s2, r⟩ => ⟨a, C, dx, vs, q, by rw [← e.m]; exact m, s, s2, RepF.like e r⟩
  | .dct _, _, ⟨a, vs, q, s, r⟩ => ⟨a, vs, q, s, RepK.like e r⟩
theorem Reps.like {z' : Z} (e : z.like z') : ∀ {d : List D} {v : List V}, Reps z G d v → Reps z' G d v
  | [], _, r => r
  | _ :: _, _, ⟨v, vs, q, r, q2⟩ => ⟨v, vs, q, Rep.like e r, Reps.like e q2⟩
theorem RepF.like {z' : Z} (e : z.like z') : ∀ {d : List (String × D)} {v : List (Str × V)}, RepF z G d v → RepF z' G d v
  | [], _, r => r
  | (_, _) :: _, _, ⟨v, vs, q, r, q2⟩ => ⟨v, vs, q, Rep.like e r, RepF.like e q2⟩
theorem RepK.like {z' : Z} (e : z.like z') : ∀ {d : List (Key × D)} {v : List (Key × V)}, RepK z G d v → RepK z' G d v
  | [], _, r => r
  | (_, _) :: _, _, ⟨v, vs, q, r, q2⟩ => ⟨v, vs, q, Rep.like e r, RepK.like e q2⟩
end
/-- owned objects as they stand, the frozen part grown -/
def Ag (as : List Addr) (H H' : Hp) : Prop := ∀ a ∈ as, H' a = H a
theorem Ag.l {as bs : List Addr} (h : Ag (as ++ bs) H H') : Ag as H H' := fun a m => h a (List.mem_append_left _ m)
theorem Ag.r {as bs : List Addr} (h : Ag (as ++ bs) H H') : Ag bs H H' := fun a m => h a (List.mem_append_right _ m)
theorem Ag.hd {a : Addr} {as : List Addr} (h : Ag (a :: as) H H') : H' a = H a := h a List.mem_cons_self
theorem Ag.tl {a : Addr} {as : List Addr} (h : Ag (a :: as) H H') : Ag as H H' := fun b m => h b (List.mem_cons_of_mem _ m)
mutual
theorem RepW.move {z' : Z} (e : z.like z') (es : z.sub z') (hG : Same G G') : ∀ {w : W} {v : V} {as : List Addr}, RepW z G H w v as → Ag as H H' → RepW z' G' H' w v as
  | .d _, _, _, ⟨q, r⟩, _ => ⟨q, (Rep.mono hG r).like e⟩
  | .ol _, _, _, ⟨a, vs, as', q, q2, h, r⟩, g => by subst q2; exact ⟨a, vs, as', q, rfl, g.hd.trans h, RepWs.move e es hG r g.tl⟩
  | .ot _, _, _, ⟨a, vs, as', q, q2, h, r⟩, g => by subst q2; exact ⟨a, vs, as', q, rfl, g.hd.trans h, RepWs.move e es hG r g.tl⟩
  | .oi _ _, _, _, ⟨a, C, dx, vs, as', q, q2, m, h, h2, r⟩, g => by
    subst q2
    exact ⟨a, C, dx, vs, as', q, rfl, by rw [← e.m]; exact m, g.hd.trans h, g.tl.hd.trans h2, RepWf.move e es hG r g.tl.tl⟩
  | .od _, _, _, ⟨a, vs, as', q, q2, h, r⟩, g => by subst q2; exact ⟨a, vs, as', q, rfl, g.hd.trans h, RepWk.move e es hG r g.tl⟩
  | .sto, _, _, ⟨q, s, h, r⟩, _ => ⟨q, s, es.1 s h, r⟩
  | .exn, _, _, ⟨q, i, h, r⟩, _ => ⟨q, i, es.2.1 i h, r⟩
  | .oL _, _, _, ⟨a, vs, as', pn, q, q2, h, r⟩, g => by subst q2; exact ⟨a, vs, as', es.2.2 _ pn, q, rfl, g.hd.trans h, RepWs.move e es hG r g.tl⟩
theorem RepWs.move {z' : Z} (e : z.like z') (es : z.sub z') (hG : Same G G') : ∀ {w : List W} {v : List V} {as : List Addr}, RepWs z G H w v as → Ag as H H' → RepWs z' G' H' w v as
  | [], _, _, r, _ => r
  | _ :: _, _, _, ⟨v, vs, a1, a2, q, q2, r, r2⟩, g => by subst q2; exact ⟨v, vs, a1, a2, q, rfl, RepW.move e es hG r g.l, RepWs.move e es hG r2 g.r⟩
theorem RepWf.move {z' : Z} (e : z.like z') (es : z.sub z') (hG : Same G G') : ∀ {w : List (String × W)} {v : List (Str × V)} {as : List Addr}, RepWf z G H w v as → Ag as H H' → RepWf z' G' H' w v as
  | [], _, _, r, _ => r
  | (_, _) :: _, _, _, ⟨v, vs, a1, a2, q, q2, r, r2⟩, g => by subst q2; exact ⟨v, vs, a1, a2, q, rfl, RepW.move e es hG r g.l, RepWf.move e es hG r2 g.r⟩
theorem RepWk.move {z' : Z} (e : z.like z') (es : z.sub z') (hG : Same G G') : ∀ {w : List (Key × W)} {v : List (Key × V)} {as : List Addr}, RepWk z G H w v as → Ag as H H' → RepWk z' G' H' w v as
  | [], _, _, r, _ => r
  | (_, _) :: _, _, _, ⟨v, vs, a1, a2, q, q2, r, r2⟩, g => by subst q2; exact ⟨v, vs, a1, a2, q, rfl, RepW.move e es hG r g.l, RepWk.move e es hG r2 g.r⟩
end
/-! no part of a tree is the store -/
mutual
def nosto : W → Bool
  | .d _ => true
  | .ol ws => nostos ws
  | .ot ws => nostos ws
  | .oi _ fs => nostof fs
  | .od kvs => nostok kvs
  | .sto => false
  | .exn => false
  | .at_ _ => false
  | .hole => false
  | .oL _ => false
def nostos : List W → Bool
  | [] => true
  | w :: ws => nosto w && nostos ws
def nostof : List (String × W) → Bool
  | [] => true
  | (_, w) :: ws => nosto w && nostof ws
def nostok : List (Key × W) → Bool
  | [] => true
  | (_, w) :: ws => nosto w && nostok ws
end
theorem band {a b : Bool} (h : (a && b) = true) : a = true ∧ b = true := Bool.and_eq_true_iff.mp h
/-! an owned tree is frozen -/
mutual
theorem RepW.fz (hG : Same G G') : ∀ {w : W} {v : V} {as : List Addr}, nosto w = true → RepW z G H w v as → Ag as H G' → Rep z G' (DL.fz w) v
  | .d _, _, _, _, ⟨_, r⟩, _ => Rep.mono hG r
  | .ol _, _, _, n, ⟨a, vs, as', q, q2, h, r⟩, g => by subst q2; exact ⟨a, vs, q, g.hd.trans h, RepWs.fz hG n r g.tl⟩
  | .ot _, _, _, n, ⟨a, vs, as', q, q2, h, r⟩, g => by subst q2; exact ⟨a, vs, q, .inl (.inl (g.hd.trans h)), RepWs.fz hG n r g.tl⟩
  | .oi _ _, _, _, n, ⟨a, C, dx, vs, as', q, q2, m, h, h2, r⟩, g => by subst q2; exact ⟨a, C, dx, vs, q, m, g.hd.trans h, g.tl.hd.trans h2, RepWf.fz hG n r g.tl.tl⟩
  | .od _, _, _, n, ⟨a, vs, as', q, q2, h, r⟩, g => by subst q2; exact ⟨a, vs, q, g.hd.trans h, RepWk.fz hG n r g.tl⟩
theorem RepWs.fz (hG : Same G G') : ∀ {w : List W} {v : List V} {as : List Addr}, nostos w = true → RepWs z G H w v as → Ag as H G' → Reps z G' (fzs w) v
  | [], _, _, _, r, _ => r.1
  | _ :: _, _, _, n, ⟨v, vs, a1, a2, q, q2, r, r2⟩, g => by subst q2; exact ⟨v, vs, q, RepW.fz hG (band n).1 r g.l, RepWs.fz hG (band n).2 r2 g.r⟩
theorem RepWf.fz (hG : Same G G') : ∀ {w : List (String × W)} {v : List (Str × V)} {as : List Addr}, nostof w = true → RepWf z G H w v as → Ag as H G' → RepF z G' (fzf w) v
  | [], _, _, _, r, _ => r.1
  | (_, _) :: _, _, _, n, ⟨v, vs, a1, a2, q, q2, r, r2⟩, g => by subst q2; exact ⟨v, vs, q, RepW.fz hG (band n).1 r g.l, RepWf.fz hG (band n).2 r2 g.r⟩
theorem RepWk.fz (hG : Same G G') : ∀ {w : List (Key × W)} {v : List (Key × V)} {as : List Addr}, nostok w = true → RepWk z G H w v as → Ag as H G' → RepK z G' (fzk w) v
  | [], _, _, _, r, _ => r.1
  | (_, _) :: _, _, _, n, ⟨v, vs, a1, a2, q, q2, r, r2⟩, g => by subst q2; exact ⟨v, vs, q, RepW.fz hG (band n).1 r g.l, RepWk.fz hG (band n).2 r2 g.r⟩
end
/-! the addresses of a tree are tracked -/
mutual
theorem RepW.there : ∀ {w : W} {v : V} {as : List Addr}, RepW z G H w v as → ∀ a ∈ as, ∃ o, H a = some o
  | .d _, _, _, ⟨q, _⟩ => by subst q; exact fun a h => nomatch h
  | .ol _, _, _, ⟨a, vs, as', q, q2, h, r⟩ => by subst q2; exact fun b m => (List.mem_cons.mp m).elim (fun e => ⟨_, e ▸ h⟩) (RepWs.there r b)
  | .ot _, _, _, ⟨a, vs, as', q, q2, h, r⟩ => by subst q2; exact fun b m => (List.mem_cons.mp m).elim (fun e => ⟨_, e ▸ h⟩) (RepWs.there r b)
  | .oi _ _, _, _, ⟨a, C, dx, vs, as', q, q2, m, h, h2, r⟩ => by
    subst q2
    exact fun b m => (List.mem_cons.mp m).elim (fun e => ⟨_, e ▸ h⟩) fun m => (List.mem_cons.mp m).elim (fun e => ⟨_, e ▸ h2⟩) (RepWf.there r b)
  | .od _, _, _, ⟨a, vs, as', q, q2, h, r⟩ => by subst q2; exact fun b m => (List.mem_cons.mp m).elim (fun e => ⟨_, e ▸ h⟩) (RepWk.there r b)
  | .sto, _, _, ⟨q, _⟩ => by subst q; exact fun a h => nomatch h
  | .exn, _, _, ⟨q, _⟩ => by subst q; exact fun a h => nomatch h
  | .oL _, _, _, ⟨a, vs, as', _, q, q2, h, r⟩ => by subst q2; exact fun b m => (List.mem_cons.mp m).elim (fun e => ⟨_, e ▸ h⟩) (RepWs.there r b)
theorem RepWs.there : ∀ {w : List W} {v : List V} {as : List Addr}, RepWs z G H w v as → ∀ a ∈ as, ∃ o, H a = some o
  | [], _, _, ⟨_, q⟩ => by subst q; exact fun a h => nomatch h
  | _ :: _, _, _, ⟨v, vs, a1, a2, q, q2, r, r2⟩ => by subst q2; exact fun b m => (List.mem_append.mp m).elim (RepW.there r b) (RepWs.there r2 b)
theorem RepWf.there : ∀ {w : List (String × W)} {v : List (Str × V)} {as : List Addr}, RepWf z G H w v as → ∀ a ∈ as, ∃ o, H a = some o
  | [], _, _, ⟨_, q⟩ => by subst q; exact fun a h => nomatch h
  | (_, _) :: _, _, _, ⟨v, vs, a1, a2, q, q2, r, r2⟩ => by subst q2; exact fun b m => (List.mem_append.mp m).elim (RepW.there r b) (RepWf.there r2 b)
theorem RepWk.there : ∀ {w : List (Key × W)} {v : List (Key × V)} {as : List Addr}, RepWk z G H w v as → ∀ a ∈ as, ∃ o, H a = some o
  | [], _, _, ⟨_, q⟩ => by subst q; exact fun a h => nomatch h
  | (_, _) :: _, _, _, ⟨v, vs, a1, a2, q, q2, r, r2⟩ => by subst q2; exact fun b m => (List.mem_append.mp m).elim (RepW.there r b) (RepWk.there r2 b)
end
end
end DL

/-! DL2: the relation between plain state (a stack of values, an environment) and slots and heap. -/
namespace DL
open PySem PySem.Spec
open PyProof.Rows L2
abbrev St := L2.St
abbrev Env := List (Option W)

/-! the store of a law: a list of the cells and five numbers -/
def cellOk : D → Prop
  | .lst [.int t, .int n] => 0 ≤ n
  | _ => False
def StoOk (z : Z) (H : Hp) (s : Addr) : Prop := ∃ (p g f r c : Int) (u : V) (xs : List D), z.sv = some u ∧ H s = some (.lst [u, .int p, .int g, .int f, .int r, .int c]) ∧ (0 ≤ p ∧ 0 ≤ g ∧ 0 ≤ r ∧ r < 2147483647) ∧ Rep z z.G0 (.cel xs) u ∧ ∀ x ∈ xs, cellOk x

def Z.Own (z : Z) (a : Addr) : Prop := z.H0 a = none ∨ (z.op = true ∧ z.s = some a)
structure Core (z : Z) (G H : Hp) : Prop where
  g0 : Same z.G0 G
  gh : Same G H
  keep : ∀ b o, z.H0 b = some o → z.s ≠ some b → H b = some o
  fresh : ∀ b, G b ≠ none → z.G0 b ≠ none ∨ z.Own b
  sH : ∀ s, z.s = some s → z.G0 s = none ∧ z.H0 s ≠ none
  xd : ∀ i, z.ex = some i → ∀ dx, i.d = some dx → ∃ us, H dx = some (.xd us) ∧ RepF z G i.fs us
  sto : z.op = false → ∀ s, z.s = some s → StoOk z H s
theorem StoOk.there {z : Z} {H : Hp} {s : Addr} (h : StoOk z H s) : ∃ o, H s = some o := let ⟨_, _, _, _, _, _, _, _, e, _⟩ := h; ⟨_, e⟩
theorem StoOk.of {z : Z} {H H' : Hp} {s : Addr} (h : StoOk z H s) (e : H' s = H s) : StoOk z H' s := let ⟨p, g, f, r, c, u, xs, h1, h2, h3⟩ := h; ⟨p, g, f, r, c, u, xs, h1, e.trans h2, h3⟩
theorem Core.sG {z : Z} {G H : Hp} (c : Core z G H) (ho : z.op = false) {s : Addr} (h : z.s = some s) : G s = none := by
  cases e : G s with
  | none => rfl
  | some o =>
    rcases c.fresh s (by rw [e]; exact fun q => nomatch q) with q | q | ⟨q, _⟩
    · exact absurd (c.sH s h).1 q
    · exact absurd q (c.sH s h).2
    · rw [ho] at q; cases q

/-- one entry of the stack -/
def RepT (z : Z) (G H : Hp) (σ : St) : W → V → List Addr → Prop
  | .at_ i, v, as => as = [] ∧ σ[i]? = some (some v)
  | .hole, _, as => as = []
  | .d x, v, as => RepW z G H (.d x) v as
  | .ol ws, v, as => RepW z G H (.ol ws) v as
  | .ot ws, v, as => RepW z G H (.ot ws) v as
  | .oi c fs, v, as => RepW z G H (.oi c fs) v as
  | .od kvs, v, as => RepW z G H (.od kvs) v as
  | .sto, v, as => RepW z G H .sto v as
  | .exn, v, as => RepW z G H .exn v as
  | .oL ws, v, as => RepW z G H (.oL ws) v as
def tree : W → Bool
  | .at_ _ => false
  | .hole => false
  | _ => true
theorem RepT.w {z : Z} {G H : Hp} {σ : St} {w : W} {v : V} {as : List Addr} (h : RepT z G H σ w v as) (t : tree w = true) : RepW z G H w v as := by
  cases w <;> first | exact h | cases t
theorem RepT.of {z : Z} {G H : Hp} {σ : St} {w : W} {v : V} {as : List Addr} (h : RepW z G H w v as) : RepT z G H σ w v as := by
  cases w <;> first | exact h | exact h.elim
theorem RepT.move {z z' : Z} {G G' H H' : Hp} {σ : St} {w : W} {v : V} {as : List Addr} (e : z.like z') (es : z.sub z') (hG : Same G G') (h : RepT z G H σ w v as) (g : Ag as H H') : RepT z' G' H' σ w v as := by
  cases w <;> first | exact RepW.move e es hG h g | exact h
theorem RepT.there {z : Z} {G H : Hp} {σ : St} {w : W} {v : V} {as : List Addr} (h : RepT z G H σ w v as) : ∀ a ∈ as, ∃ o, H a = some o := by
  cases w with
  | at_ i => obtain ⟨q, _⟩ := h; subst q; exact fun a m => nomatch m
  | hole =>
    have q : as = [] := h
    subst q
    exact fun a m => nomatch m
  | _ => exact RepW.there h
def RepSt (z : Z) (G H : Hp) (σ : St) : List W → List V → List Addr → Prop
  | [], vs, as => vs = [] ∧ as = []
  | w :: ws, vs, as => ∃ v vs' a1 a2, vs = v :: vs' ∧ as = a1 ++ a2 ∧ RepT z G H σ w v a1 ∧ RepSt z G H σ ws vs' a2
def RepE (z : Z) (G H : Hp) : Env → St → List Addr → Prop
  | [], σ, as => σ = [] ∧ as = []
  | none :: e, σ, as => ∃ o σ', σ = o :: σ' ∧ RepE z G H e σ' as
  | some w :: e, σ, as => ∃ v σ' a1 a2, σ = some v :: σ' ∧ as = a1 ++ a2 ∧ RepW z G H w v a1 ∧ RepE z G H e σ' a2
section
variable {z z' : Z} {G G' H H' : Hp} {σ : St}
theorem RepSt.move (e : z.like z') (es : z.sub z') (hG : Same G G') : ∀ {ws : List W} {vs : List V} {as : List Addr}, RepSt z G H σ ws vs as → Ag as H H' → RepSt z' G' H' σ ws vs as
  | [], _, _, r, _ => r
  | _ :: _, _, _, ⟨v, vs, a1, a2, q, q2, r, r2⟩, g => by subst q2; exact ⟨v, vs, a1, a2, q, rfl, r.move e es hG g.l, RepSt.move e es hG r2 g.r⟩
theorem RepSt.there : ∀ {ws : List W} {vs : List V} {as : List Addr}, RepSt z G H σ ws vs as → ∀ a ∈ as, ∃ o, H a = some o
  | [], _, _, ⟨_, q⟩ => by subst q; exact fun a h => nomatch h
  | _ :: _, _, _, ⟨v, vs, a1, a2, q, q2, r, r2⟩ => by subst q2; exact fun b m => (List.mem_append.mp m).elim (r.there b) (RepSt.there r2 b)
theorem RepE.move (e : z.like z') (es : z.sub z') (hG : Same G G') : ∀ {env : Env} {σ : St} {as : List Addr}, RepE z G H env σ as → Ag as H H' → RepE z' G' H' env σ as
  | [], _, _, r, _ => r
  | none :: _, _, _, ⟨o, σ', q, r⟩, g => ⟨o, σ', q, RepE.move e es hG r g⟩
  | some _ :: _, _, _, ⟨v, vs, a1, a2, q, q2, r, r2⟩, g => by subst q2; exact ⟨v, vs, a1, a2, q, rfl, r.move e es hG g.l, RepE.move e es hG r2 g.r⟩
theorem RepE.there : ∀ {env : Env} {σ : St} {as : List Addr}, RepE z G H env σ as → ∀ a ∈ as, ∃ o, H a = some o
  | [], _, _, ⟨_, q⟩ => by subst q; exact fun a h => nomatch h
  | none :: _, _, _, ⟨o, σ', q, r⟩ => RepE.there r
  | some _ :: _, _, _, ⟨v, vs, a1, a2, q, q2, r, r2⟩ => by subst q2; exact fun b m => (List.mem_append.mp m).elim (RepW.there r b) (RepE.there r2 b)
theorem RepE.len : ∀ {env : Env} {σ : St} {as : List Addr}, RepE z G H env σ as → σ.length = env.length
  | [], _, _, ⟨q, _⟩ => by subst q; rfl
  | none :: _, _, _, ⟨o, σ', q, r⟩ => by subst q; exact congrArg Nat.succ (RepE.len r)
  | some _ :: _, _, _, ⟨v, vs, a1, a2, q, q2, r, r2⟩ => by subst q; exact congrArg Nat.succ (RepE.len r2)
/-- one slot, and what may be put in its place -/
theorem RepE.at_ : ∀ {env : Env} {σ : St} {bs : List Addr} {i : Nat} {w : W}, RepE z G H env σ bs → env[i]? = some (some w) →
    ∃ v b1 bi b2, σ[i]? = some (some v) ∧ bs = b1 ++ (bi ++ b2) ∧ RepW z G H w v bi ∧
      (∀ G' H' w' bi', Same G G' → Ag (b1 ++ b2) H H' → RepW z G' H' w' v bi' → RepE z G' H' (env.set i (some w')) σ (b1 ++ (bi' ++ b2))) ∧
      (∀ G' H' w' v' bi', Same G G' → Ag (b1 ++ b2) H H' → RepW z G' H' w' v' bi' → RepE z G' H' (env.set i (some w')) (σ.set i (some v')) (b1 ++ (bi' ++ b2))) ∧
      (∀ G' H', Same G G' → Ag (b1 ++ b2) H H' → RepE z G' H' (env.set i none) σ (b1 ++ b2))
  | [], _, _, _, _, _, e => by simp at e
  | none :: _, _, _, 0, _, _, e => by simp at e
  | some w0 :: env, _, _, 0, w, ⟨v, σ', a1, a2, q, q2, r, r2⟩, e => by
    have e0 : w0 = w := by simpa using e
    subst e0 q q2
    refine ⟨v, [], a1, a2, rfl, rfl, r, fun G' H' w' bi' hG g r' => ⟨v, σ', bi', a2, rfl, rfl, r', RepE.move Z.like_refl Z.sub_refl hG r2 g⟩, fun G' H' w' v' bi' hG g r' => ⟨v', σ', bi', a2, rfl, rfl, r', RepE.move Z.like_refl Z.sub_refl hG r2 g⟩,
      fun G' H' hG g => ⟨_, σ', rfl, RepE.move Z.like_refl Z.sub_refl hG r2 g⟩⟩
  | none :: env, _, _, i + 1, w, ⟨o, σ', q, r⟩, e => by
    obtain ⟨v, b1, bi, b2, h1, h2, h3, h4, h5, h6⟩ := RepE.at_ (i := i) (w := w) r (by simpa using e)
    subst q
    exact ⟨v, b1, bi, b2, by simpa using h1, h2, h3, fun G' H' w' bi' hG g r' => ⟨o, σ', rfl, h4 G' H' w' bi' hG g r'⟩, fun G' H' w' v' bi' hG g r' => ⟨o, _, rfl, h5 G' H' w' v' bi' hG g r'⟩, fun G' H' hG g => ⟨o, σ', rfl, h6 G' H' hG g⟩⟩
  | some w0 :: env, _, _, i + 1, w, ⟨v0, σ', a1, a2, q, q2, r0, r⟩, e => by
    obtain ⟨v, b1, bi, b2, h1, h2, h3, h4, h5, h6⟩ := RepE.at_ (i := i) (w := w) r (by simpa using e)
    subst q q2 h2
    refine ⟨v, a1 ++ b1, bi, b2, by simpa using h1, by simp [List.append_assoc], h3, fun G' H' w' bi' hG g r' => ?_, fun G' H' w' v' bi' hG g r' => ?_, fun G' H' hG g => ?_⟩
    all_goals rw [List.append_assoc] at g
    · exact ⟨v0, σ', a1, b1 ++ (bi' ++ b2), rfl, by simp [List.append_assoc], r0.move Z.like_refl Z.sub_refl hG g.l, h4 G' H' w' bi' hG g.r r'⟩
    · exact ⟨v0, _, a1, b1 ++ (bi' ++ b2), rfl, by simp [List.append_assoc], r0.move Z.like_refl Z.sub_refl hG g.l, h5 G' H' w' v' bi' hG g.r r'⟩
    · exact ⟨v0, σ', a1, b1 ++ b2, rfl, by simp [List.append_assoc], r0.move Z.like_refl Z.sub_refl hG g.l, h6 G' H' hG g.r⟩
/-- a slot is stored -/
theorem RepE.put : ∀ {env : Env} {σ : St} {bs : List Addr} {i : Nat}, RepE z G H env σ bs → i < env.length →
    ∃ b1 bi b2, bs = b1 ++ (bi ++ b2) ∧ ∀ w' v' bi', RepW z G H w' v' bi' → RepE z G H (env.set i (some w')) (σ.set i (some v')) (b1 ++ (bi' ++ b2))
  | [], _, _, _, _, e => absurd e (Nat.not_lt_zero _)
  | none :: _, _, bs, 0, ⟨o, σ', q, r⟩, _ => by subst q; exact ⟨[], [], bs, rfl, fun w' v' bi' r' => ⟨v', σ', bi', bs, rfl, rfl, r', r⟩⟩
  | some w0 :: env, _, _, 0, ⟨v, σ', a1, a2, q, q2, r, r2⟩, _ => by subst q q2; exact ⟨[], a1, a2, rfl, fun w' v' bi' r' => ⟨v', σ', bi', a2, rfl, rfl, r', r2⟩⟩
  | none :: env, _, _, i + 1, ⟨o, σ', q, r⟩, e => by
    obtain ⟨b1, bi, b2, h1, h2⟩ := RepE.put (i := i) r (Nat.lt_of_succ_lt_succ e)
    subst q
    exact ⟨b1, bi, b2, h1, fun w' v' bi' r' => ⟨o, _, rfl, h2 w' v' bi' r'⟩⟩
  | some w0 :: env, _, _, i + 1, ⟨v0, σ', a1, a2, q, q2, r0, r⟩, e => by
    obtain ⟨b1, bi, b2, h1, h2⟩ := RepE.put (i := i) r (Nat.lt_of_succ_lt_succ e)
    subst q q2 h1
    exact ⟨a1 ++ b1, bi, b2, by simp [List.append_assoc], fun w' v' bi' r' => ⟨v0, _, a1, b1 ++ (bi' ++ b2), rfl, by simp [List.append_assoc], r0, h2 w' v' bi' r'⟩⟩
theorem RepSt.app : ∀ {ws ws' : List W} {vs vs' : List V} {as as' : List Addr}, RepSt z G H σ ws vs as → RepSt z G H σ ws' vs' as' → RepSt z G H σ (ws ++ ws') (vs ++ vs') (as ++ as')
  | [], _, _, _, _, _, ⟨q, q2⟩, r' => by subst q q2; exact r'
  | _ :: _, _, _, _, _, _, ⟨v, vs, a1, a2, q, q2, r, r2⟩, r' => by subst q q2; exact ⟨v, _, a1, a2 ++ _, rfl, by simp [List.append_assoc], r, RepSt.app r2 r'⟩
theorem RepSt.split : ∀ {ws ws' : List W} {vs : List V} {as : List Addr}, RepSt z G H σ (ws ++ ws') vs as → ∃ v1 v2 a1 a2, vs = v1 ++ v2 ∧ as = a1 ++ a2 ∧ RepSt z G H σ ws v1 a1 ∧ RepSt z G H σ ws' v2 a2
  | [], _, vs, as, r => ⟨[], vs, [], as, rfl, rfl, ⟨rfl, rfl⟩, r⟩
  | _ :: _, _, _, _, ⟨v, vs, a1, a2, q, q2, r, r2⟩ => by
    obtain ⟨v1, v2, b1, b2, h1, h2, h3, h4⟩ := RepSt.split r2
    subst q q2 h1 h2
    exact ⟨v :: v1, v2, a1 ++ b1, b2, rfl, by simp [List.append_assoc], ⟨v, v1, a1, b1, rfl, rfl, r, h3⟩, h4⟩
/-- a row of trees on the stack is a row of trees -/
theorem RepSt.ws : ∀ {ws : List W} {vs : List V} {as : List Addr}, ws.all tree = true → RepSt z G H σ ws vs as → RepWs z G H ws vs as
  | [], _, _, _, r => r
  | w :: ws, _, _, t, ⟨v, vs, a1, a2, q, q2, r, r2⟩ => by
    obtain ⟨t1, t2⟩ := band (show (tree w && ws.all tree) = true from t)
    exact ⟨v, vs, a1, a2, q, q2, r.w t1, RepSt.ws t2 r2⟩
end

/-- THE RELATION: stk the values at hand, the last one first; env what the slots hold -/
def Rel (z : Z) (stk : List W) (vs : List V) (env : Env) (σ : St) (H : Hp) : Prop :=
  ∃ G as bs, RepSt z G H σ stk vs as ∧ RepE z G H env σ bs ∧ (as ++ bs).Nodup ∧ (∀ a ∈ as ++ bs, G a = none ∧ z.Own a) ∧ Core z G H

section
variable {z : Z} {stk : List W} {vs : List V} {env : Env} {σ : St} {H : Hp} {w : W} {v : V}
theorem nodup_sub {as bs : List Addr} (h : List.Sublist as bs) (n : bs.Nodup) : as.Nodup := n.sublist h
/-- the top is dropped -/
theorem Rel.pop (r : Rel z (w :: stk) (v :: vs) env σ H) : Rel z stk vs env σ H := by
  obtain ⟨G, as, bs, ⟨v', vs', a1, a2, q, q2, r1, r2⟩, re, nd, ow, c⟩ := r
  cases q; subst q2
  refine ⟨G, a2, bs, r2, re, ?_, fun a m => ow a ?_, c⟩
  · rw [List.append_assoc] at nd
    exact (List.nodup_append.mp nd).2.1
  · rw [List.append_assoc]
    exact List.mem_append_right _ m
theorem Rel.top (r : Rel z (w :: stk) vs env σ H) : ∃ v vs', vs = v :: vs' := by
  obtain ⟨G, as, bs, ⟨v', vs', a1, a2, q, q2, r1, r2⟩, re, nd, ow, c⟩ := r
  exact ⟨v', vs', q⟩
theorem Rel.nil_ (r : Rel z [] vs env σ H) : vs = [] := by
  obtain ⟨G, as, bs, ⟨q, _⟩, _⟩ := r
  exact q
theorem Rel.len (r : Rel z stk vs env σ H) : σ.length = env.length := by
  obtain ⟨G, as, bs, _, re, _⟩ := r
  exact re.len
/-- what stands still may be pushed -/
theorem Rel.push (r : Rel z stk vs env σ H) {x : D} (h : ∀ G, Same z.G0 G → Same G H → Core z G H → Rep z G x v) : Rel z (.d x :: stk) (v :: vs) env σ H := by
  obtain ⟨G, as, bs, rs, re, nd, ow, c⟩ := r
  exact ⟨G, as, bs, ⟨v, vs, [], as, rfl, rfl, ⟨rfl, h G c.g0 c.gh c⟩, rs⟩, re, nd, ow, c⟩
theorem Rel.pushInt (r : Rel z stk vs env σ H) {i : Int} : Rel z (.d (.int i) :: stk) (.int i :: vs) env σ H := r.push fun _ _ _ _ => rfl
theorem Rel.pushBl (r : Rel z stk vs env σ H) {i : Bool} : Rel z (.d (.bl i) :: stk) (.bl i :: vs) env σ H := r.push fun _ _ _ _ => rfl
theorem Rel.pushNon (r : Rel z stk vs env σ H) : Rel z (.d .non :: stk) (.non :: vs) env σ H := r.push fun _ _ _ _ => rfl
theorem Rel.pushStr (r : Rel z stk vs env σ H) {i : List Nat} : Rel z (.d (.str i) :: stk) (.str ⟨i.toArray⟩ :: vs) env σ H := r.push fun _ _ _ _ => rfl
theorem Rel.pushAt (r : Rel z stk vs env σ H) {i : Nat} (h : σ[i]? = some (some v)) : Rel z (.at_ i :: stk) (v :: vs) env σ H := by
  obtain ⟨G, as, bs, rs, re, nd, ow, c⟩ := r
  exact ⟨G, as, bs, ⟨v, vs, [], as, rfl, rfl, ⟨rfl, h⟩, rs⟩, re, nd, ow, c⟩
theorem Rel.slot (r : Rel z stk vs env σ H) {i : Nat} (h : env[i]? = some (some w)) : ∃ v, σ[i]? = some (some v) := by
  obtain ⟨G, as, bs, rs, re, nd, ow, c⟩ := r
  obtain ⟨v, _, _, _, q, _⟩ := re.at_ h
  exact ⟨v, q⟩

/-! looking at a value -/
def peek (env : Env) : W → Option W
  | .at_ i => match env[i]? with
    | some (some w) => some w
    | _ => none
  | .hole => none
  | .d x => some (.d x)
  | .ol ws => some (.ol ws)
  | .ot ws => some (.ot ws)
  | .oi c fs => some (.oi c fs)
  | .od kvs => some (.od kvs)
  | .sto => some .sto
  | .exn => some .exn
  | .oL ws => some (.oL ws)
/-- the value as it may be read now -/
def Rd1 (z : Z) (H : Hp) (w : W) (v : V) : Prop := ∃ G as, Same G H ∧ RepW z G H w v as
theorem Rel.look (r : Rel z (w :: stk) (v :: vs) env σ H) {w' : W} (h : peek env w = some w') : Rd1 z H w' v := by
  obtain ⟨G, as, bs, ⟨v', vs', a1, a2, q, q2, r1, r2⟩, re, nd, ow, c⟩ := r
  cases q
  cases w with
  | at_ i =>
    obtain ⟨_, e⟩ := r1
    have h2 : env[i]? = some (some w') := by
      have h3 : (match env[i]? with | some (some w) => some w | _ => none) = some w' := h
      cases e1 : env[i]? with
      | none => rw [e1] at h3; cases h3
      | some o =>
        rw [e1] at h3
        cases o with
        | none => cases h3
        | some w1 => cases h3; rfl
    obtain ⟨v2, b1, bi, b2, e2, _, h3, _⟩ := re.at_ h2
    rw [e] at e2
    cases e2
    exact ⟨G, bi, c.gh, h3⟩
  | hole => cases h
  | _ => cases h; exact ⟨G, a1, c.gh, r1⟩
/-- the second value from the top -/
theorem Rel.look2 {w2 : W} {v2 : V} (r : Rel z (w2 :: w :: stk) (v2 :: v :: vs) env σ H) {w' : W} (h : peek env w = some w') : Rd1 z H w' v := r.pop.look h
theorem Rel.look3 {w2 w3 : W} {v2 v3 : V} (r : Rel z (w3 :: w2 :: w :: stk) (v3 :: v2 :: v :: vs) env σ H) {w' : W} (h : peek env w = some w') : Rd1 z H w' v := r.pop.pop.look h

theorem Rd1.d {x : D} (r : Rd1 z H (.d x) v) : Rep z H x v := let ⟨_, _, g, _, h⟩ := r; Rep.mono g h
theorem Rd1.of {x : D} (r : Rep z H x v) : Rd1 z H (.d x) v := ⟨H, [], Same.refl _, rfl, r⟩

/-! rows: a list or a tuple -/
inductive SeqK where
  | l | r | t
  deriving DecidableEq
def seqW : W → Option (SeqK × List W)
  | .d (.lst xs) => some (.l, xs.map .d)
  | .d (.klst xs) => some (.r, xs.map .d)
  | .d (.tup xs) => some (.t, xs.map .d)
  | .d (.cel xs) => some (.l, xs.map .d)
  | .ol ws => some (.l, ws)
  | .oL ws => some (.l, ws)
  | .ot ws => some (.t, ws)
  | _ => none
def SqK (K : PySem.W.Frag) (H : Hp) (a : Addr) (vs : List V) : SeqK → Prop
  | .l => H a = some (.lst vs)
  | .r => SqL K H a vs
  | .t => SqT K H a vs
def Rds (z : Z) (H : Hp) : List W → List V → Prop
  | [], vs => vs = []
  | w :: ws, vs => ∃ v vs', vs = v :: vs' ∧ Rd1 z H w v ∧ Rds z H ws vs'
theorem Rds.len : ∀ {ws : List W} {vs : List V}, Rds z H ws vs → vs.length = ws.length
  | [], _, q => by cases q; rfl
  | _ :: _, _, ⟨v, vs', q, _, r⟩ => by subst q; exact congrArg Nat.succ (Rds.len r)
theorem Rds.get : ∀ {ws : List W} {vs : List V} {i : Nat} {w : W}, Rds z H ws vs → ws[i]? = some w → ∃ v, vs[i]? = some v ∧ Rd1 z H w v
  | [], _, _, _, _, e => by simp at e
  | w0 :: _, _, 0, w, ⟨v, vs', q, r, _⟩, e => by
    have e0 : w0 = w := by simpa using e
    subst q e0
    exact ⟨v, rfl, r⟩
  | _ :: _, _, i + 1, w, ⟨v, vs', q, _, r⟩, e => by
    subst q
    obtain ⟨u, h1, h2⟩ := Rds.get (i := i) r (by simpa using e)
    exact ⟨u, by simpa using h1, h2⟩
theorem reps_rds {G : Hp} (g : Same G H) : ∀ {xs : List D} {vs : List V}, Reps z G xs vs → Rds z H (xs.map .d) vs
  | [], _, q => q
  | _ :: _, _, ⟨v, vs', q, r, r2⟩ => ⟨v, vs', q, ⟨G, [], g, rfl, r⟩, reps_rds g r2⟩
theorem repws_rds {G : Hp} (g : Same G H) : ∀ {xs : List W} {vs : List V} {as : List Addr}, RepWs z G H xs vs as → Rds z H xs vs
  | [], _, _, q => q.1
  | _ :: _, _, _, ⟨v, vs', a1, a2, q, _, r, r2⟩ => ⟨v, vs', q, ⟨G, a1, g, r⟩, repws_rds g r2⟩
theorem Same.sqk {K : PySem.W.Frag} {G H : Hp} {a : Addr} {vs : List V} {k : SeqK} (g : Same G H) (h : SqK K G a vs k) : SqK K H a vs k := by
  cases k with
  | l => exact g _ _ h
  | r => exact g.seq h
  | t => exact Same.tup g h
theorem Rd1.seq {k : SeqK} {ws : List W} (r : Rd1 z H w v) (h : seqW w = some (k, ws)) : ∃ a us, v = .ref a ∧ SqK z.K H a us k ∧ Rds z H ws us := by
  obtain ⟨G, as, g, r⟩ := r
  cases w with
  | d x =>
    obtain ⟨_, r⟩ := r
    cases x with
    | lst xs => cases h; obtain ⟨a, us, q, s, r⟩ := r; exact ⟨a, us, q, g _ _ s, reps_rds g r⟩
    | klst xs => cases h; obtain ⟨a, us, q, s, r⟩ := r; exact ⟨a, us, q, g.seq s, reps_rds g r⟩
    | tup xs => cases h; obtain ⟨a, us, q, s, r⟩ := r; exact ⟨a, us, q, Same.tup g s, reps_rds g r⟩
    | cel xs => cases h; obtain ⟨_, a, us, q, s, r⟩ := r; exact ⟨a, us, q, g _ _ s, reps_rds g r⟩
    | _ => cases h
  | ol ws => cases h; obtain ⟨a, us, as', q, _, e, r⟩ := r; exact ⟨a, us, q, e, repws_rds g r⟩
  | oL ws => cases h; obtain ⟨a, us, as', _, q, _, e, r⟩ := r; exact ⟨a, us, q, e, repws_rds g r⟩
  | ot ws => cases h; obtain ⟨a, us, as', q, _, e, r⟩ := r; exact ⟨a, us, q, SqT.of e, repws_rds g r⟩
  | _ => cases h
end
end DL

/-! DL3: taking values, new objects, changed objects, what a call leaves. -/
namespace DL
open PySem PySem.Spec
open PyProof.Rows L2
section
variable {z : Z} {stk : List W} {vs : List V} {env : Env} {σ : St} {H : Hp} {w : W} {v : V}

/-! taking -/
/-- a value as data; what a slot owns is frozen there -/
def useD (w : W) (env : Env) (k : D → Env → Prop) : Prop := match w with
  | .at_ i => match env[i]? with
    | some (some w0) => match w0 with
      | .d x => k x env
      | _ => nosto w0 = true ∧ k (fz w0) (env.set i (some (.d (fz w0))))
    | _ => False
  | .hole => False
  | .d x => k x env
  | w => nosto w = true ∧ k (fz w) env
theorem useD_own {w0 : W} {env : Env} {i : Nat} {k : D → Env → Prop} (h : env[i]? = some (some w0)) (u : useD (.at_ i) env k) : (∃ x, w0 = .d x ∧ k x env) ∨ (nosto w0 = true ∧ k (fz w0) (env.set i (some (.d (fz w0))))) := by
  unfold useD at u
  simp only [h] at u
  cases w0 with
  | d x => exact .inl ⟨x, rfl, u⟩
  | _ => exact .inr u
/-- H's objects at as taken into G -/
def grow (G H : Hp) (as : List Addr) : Hp := fun b => if b ∈ as then H b else G b
theorem grow_in {G H : Hp} {as : List Addr} {a : Addr} (h : a ∈ as) : grow G H as a = H a := if_pos h
theorem grow_out {G H : Hp} {as : List Addr} {a : Addr} (h : a ∉ as) : grow G H as a = G a := if_neg h
theorem grow_same {G H : Hp} {as : List Addr} (h : ∀ a ∈ as, G a = none) : Same G (grow G H as) := fun b o e => by
  by_cases m : b ∈ as
  · rw [h b m] at e; cases e
  · rw [grow_out m]; exact e
theorem Core.grow {G H : Hp} {as : List Addr} (c : Core z G H) (h : ∀ a ∈ as, G a = none ∧ z.Own a) : Core z (grow G H as) H := by
  have s1 : Same G (DL.grow G H as) := grow_same fun a m => (h a m).1
  refine ⟨c.g0.trans s1, fun b o e => ?_, c.keep, fun b q => ?_, c.sH, fun i hi dx hd => ?_, fun ho s hs => ?_⟩
  · by_cases m : b ∈ as
    · rw [grow_in m] at e; exact e
    · rw [grow_out m] at e; exact c.gh b o e
  · by_cases m : b ∈ as
    · exact .inr (h b m).2
    · rw [grow_out m] at q; exact c.fresh b q
  · obtain ⟨us, h1, h2⟩ := c.xd i hi dx hd
    exact ⟨us, h1, RepF.mono s1 h2⟩
  · exact c.sto ho s hs
theorem not_mem_of_nodup {as bs : List Addr} (n : (as ++ bs).Nodup) {a : Addr} (h : a ∈ as) : a ∉ bs := fun h2 => (List.nodup_append.mp n).2.2 a h a h2 rfl

/-- the top as data -/
theorem Rel.useD {k : D → Env → Prop} (r : Rel z (w :: stk) (v :: vs) env σ H) (u : DL.useD w env k) : ∃ x env', Rel z (.d x :: stk) (v :: vs) env' σ H ∧ k x env' := by
  obtain ⟨G, as, bs, ⟨v', vs', a1, a2, q, q2, r1, r2⟩, re, nd, ow, c⟩ := r
  cases q; subst q2
  -- an owned tree on the stack
  have own : ∀ {w0 : W}, RepW z G H w0 v a1 → nosto w0 = true → k (fz w0) env → ∃ x env', Rel z (.d x :: stk) (v :: vs) env' σ H ∧ k x env' := fun {w0} rw0 n hk => by
    have o1 : ∀ a ∈ a1, G a = none ∧ z.Own a := fun a m => ow a (List.mem_append_left _ (List.mem_append_left _ m))
    have s1 : Same G (DL.grow G H a1) := grow_same fun a m => (o1 a m).1
    have nd2 : (a2 ++ bs).Nodup := by rw [List.append_assoc] at nd; exact (List.nodup_append.mp nd).2.1
    refine ⟨_, env, ⟨DL.grow G H a1, a2, bs, ⟨v, vs, [], a2, rfl, rfl, ⟨rfl, RepW.fz s1 n rw0 fun a m => grow_in m⟩, r2.move Z.like_refl Z.sub_refl s1 fun _ _ => rfl⟩, re.move Z.like_refl Z.sub_refl s1 fun _ _ => rfl, nd2, fun a m => ?_, c.grow o1⟩, hk⟩
    have m2 : a ∈ a1 ++ a2 ++ bs := by rw [List.append_assoc]; exact List.mem_append_right _ m
    have na : a ∉ a1 := fun m1 => not_mem_of_nodup (by rw [List.append_assoc] at nd; exact nd) m1 m
    rw [grow_out na]
    exact ow a m2
  cases w with
  | at_ i =>
    obtain ⟨e1, e2⟩ := r1
    subst e1
    cases hi : env[i]? with
    | none => unfold DL.useD at u; simp only [hi] at u
    | some o =>
      cases o with
      | none => unfold DL.useD at u; simp only [hi] at u
      | some w0 =>
        obtain ⟨v2, b1, bi, b2, h1, h2, h3, h4, _, _⟩ := re.at_ hi
        rw [e2] at h1; cases h1; subst h2
        rcases useD_own hi u with ⟨x, rfl, hk⟩ | ⟨n, hk⟩
        · exact ⟨x, env, ⟨G, a2, _, ⟨v, vs, [], a2, rfl, rfl, ⟨rfl, h3.2⟩, r2⟩, re, nd, ow, c⟩, hk⟩
        · have o1 : ∀ a ∈ bi, G a = none ∧ z.Own a := fun a m => ow a (List.mem_append_right _ (List.mem_append_right _ (List.mem_append_left _ m)))
          have s1 : Same G (DL.grow G H bi) := grow_same fun a m => (o1 a m).1
          have pm : List.Perm ([] ++ a2 ++ (b1 ++ (bi ++ b2))) (bi ++ (a2 ++ (b1 ++ ([] ++ b2)))) := by
            simp only [List.nil_append]
            refine ((List.perm_append_comm_assoc b1 bi b2).append_left a2).trans ?_
            exact List.perm_append_comm_assoc a2 bi (b1 ++ b2)
          have nd2 := (pm.nodup_iff).mp nd
          refine ⟨_, _, ⟨DL.grow G H bi, a2, b1 ++ ([] ++ b2), ⟨v, vs, [], a2, rfl, rfl, ⟨rfl, RepW.fz s1 n h3 fun a m => grow_in m⟩, r2.move Z.like_refl Z.sub_refl s1 fun _ _ => rfl⟩,
            h4 _ _ (.d (fz w0)) [] s1 (fun _ _ => rfl) ⟨rfl, RepW.fz s1 n h3 fun a m => grow_in m⟩, (List.nodup_append.mp nd2).2.1, fun a m => ?_, c.grow o1⟩, hk⟩
          have na : a ∉ bi := fun m1 => not_mem_of_nodup nd2 m1 m
          rw [grow_out na]
          exact ow a ((pm.mem_iff).mpr (List.mem_append_right _ m))
  | hole => exact u.elim
  | d x => exact ⟨x, env, ⟨G, _, bs, ⟨v, vs, a1, a2, rfl, rfl, r1, r2⟩, re, nd, ow, c⟩, u⟩
  | ol ws => exact own r1 u.1 u.2
  | ot ws => exact own r1 u.1 u.2
  | oi c fs => exact own r1 u.1 u.2
  | od kvs => exact own r1 u.1 u.2
  | sto => exact absurd u.1 (by decide)
  | exn => exact absurd u.1 (by decide)
  | oL ws => exact nomatch u.1
/-- a value as a tree: what stands on the stack alone is kept owned -/
def useW (w : W) (env : Env) (k : W → Env → Prop) : Prop := match w with
  | .at_ i => useD (.at_ i) env fun x env' => k (.d x) env'
  | .hole => False
  | w => nosto w = true ∧ k w env
theorem Rel.useW {k : W → Env → Prop} (r : Rel z (w :: stk) (v :: vs) env σ H) (u : DL.useW w env k) : ∃ w' env', tree w' = true ∧ nosto w' = true ∧ Rel z (w' :: stk) (v :: vs) env' σ H ∧ k w' env' := by
  cases w with
  | at_ i =>
    obtain ⟨x, env', r', hk⟩ := r.useD u
    exact ⟨.d x, env', rfl, rfl, r', hk⟩
  | hole => exact u.elim
  | sto => exact absurd u.1 (by decide)
  | exn => exact absurd u.1 (by decide)
  | oL ws => exact nomatch u.1
  | _ => exact ⟨_, env, rfl, u.1, r, u.2⟩

/-! new objects -/
theorem Core.upd {G : Hp} {p : Addr} {o : HO} (c : Core z G H) (hp : H p = none) : Core z G (upd H p o) := by
  refine ⟨c.g0, fun b u e => ?_, fun b u e n => ?_, c.fresh, c.sH, fun i hi dx hd => ?_, fun ho s hs => ?_⟩
  · rw [upd_ne (ne_of_none (c.gh b u e) hp)]; exact c.gh b u e
  · rw [upd_ne (ne_of_none (c.keep b u e n) hp)]; exact c.keep b u e n
  · obtain ⟨us, h1, h2⟩ := c.xd i hi dx hd
    exact ⟨us, by rw [upd_ne (ne_of_none h1 hp)]; exact h1, h2⟩
  · obtain ⟨o, h1⟩ := (c.sto ho s hs).there
    exact (c.sto ho s hs).of (upd_ne (ne_of_none h1 hp))
theorem ag_new {as : List Addr} {p : Addr} {o : HO} (h : ∀ a ∈ as, ∃ u, H a = some u) (hp : H p = none) : Ag as H (upd H p o) := fun a m => by
  obtain ⟨u, e⟩ := h a m
  exact upd_ne (ne_of_none e hp)
theorem Core.newOwn {G : Hp} {p : Addr} (c : Core z G H) (hp : H p = none) (ho : z.op = false) : G p = none ∧ z.Own p := by
  refine ⟨c.gh.free hp, .inl ?_⟩
  cases e : z.H0 p with
  | none => rfl
  | some o =>
    by_cases hs : z.s = some p
    · obtain ⟨us, h1⟩ := (c.sto ho p hs).there
      rw [hp] at h1; cases h1
    · have := c.keep p o e hs
      rw [hp] at this; cases this
/-- a row of trees on the stack becomes a new list (tuple) -/
theorem Rel.row {ws : List W} {us : List V} {p : Addr} (r : Rel z (ws ++ stk) (us ++ vs) env σ H) (hl : us.length = ws.length) (t : ws.all tree = true) (hp : H p = none) (hop : z.op = false) {k : SeqK} :
    Rel z ((match k with | .t => W.ot ws | _ => W.ol ws) :: stk) (.ref p :: vs) env σ (upd H p (match k with | .t => .tup us | _ => .lst us)) := by
  obtain ⟨G, as, bs, rs, re, nd, ow, c⟩ := r
  obtain ⟨v1, v2, a1, a2, q, q2, r1, r2⟩ := rs.split
  have l1 : v1.length = ws.length := by
    have : ∀ {ws : List W} {vs : List V} {as : List Addr}, RepWs z G H ws vs as → vs.length = ws.length := fun {ws vs as} h => (repws_rds (H := H) c.gh h).len
    exact this (r1.ws t)
  obtain ⟨e1, e2⟩ := List.append_inj q (by rw [hl, l1])
  subst e1 e2 q2
  have ag : Ag (a1 ++ a2 ++ bs) H (upd H p (match k with | .t => .tup us | _ => .lst us)) := ag_new (fun a m => by
    rcases List.mem_append.mp m with m | m
    · rcases List.mem_append.mp m with m | m
      · exact r1.there a m
      · exact r2.there a m
    · exact re.there a m) hp
  have nm : p ∉ a1 ++ a2 ++ bs := fun m => by
    have h1 : ∃ u, H p = some u := by
      rcases List.mem_append.mp m with m | m
      · rcases List.mem_append.mp m with m | m
        · exact r1.there p m
        · exact r2.there p m
      · exact re.there p m
    obtain ⟨u, e⟩ := h1
    rw [hp] at e; cases e
  refine ⟨G, p :: a1 ++ a2, bs, ⟨.ref p, vs, p :: a1, a2, rfl, rfl, ?_, r2.move Z.like_refl Z.sub_refl (Same.refl _) ag.l.r⟩, re.move Z.like_refl Z.sub_refl (Same.refl _) ag.r, ?_, fun a m => ?_, c.upd hp⟩
  · cases k with
    | l => exact ⟨p, us, a1, rfl, rfl, upd_same, (r1.ws t).move Z.like_refl Z.sub_refl (Same.refl _) ag.l.l⟩
    | r => exact ⟨p, us, a1, rfl, rfl, upd_same, (r1.ws t).move Z.like_refl Z.sub_refl (Same.refl _) ag.l.l⟩
    | t => exact ⟨p, us, a1, rfl, rfl, upd_same, (r1.ws t).move Z.like_refl Z.sub_refl (Same.refl _) ag.l.l⟩
  · exact List.nodup_cons.mpr ⟨nm, nd⟩
  · rcases List.mem_cons.mp (show a ∈ p :: (a1 ++ a2 ++ bs) from m) with m | m
    · rw [m]; exact c.newOwn hp hop
    · exact ow a m
theorem Rel.newL {ws : List W} {us : List V} {p : Addr} (r : Rel z (ws ++ stk) (us ++ vs) env σ H) (hl : us.length = ws.length) (t : ws.all tree = true) (hp : H p = none) (hop : z.op = false) : Rel z (.ol ws :: stk) (.ref p :: vs) env σ (upd H p (.lst us)) := r.row hl t hp hop (k := .l)
theorem Rel.newT {ws : List W} {us : List V} {p : Addr} (r : Rel z (ws ++ stk) (us ++ vs) env σ H) (hl : us.length = ws.length) (t : ws.all tree = true) (hp : H p = none) (hop : z.op = false) : Rel z (.ot ws :: stk) (.ref p :: vs) env σ (upd H p (.tup us)) := r.row hl t hp hop (k := .t)
/-- data that stands in the heap, as a new row of data (of a list read) -/
theorem Rel.pushRd (r : Rel z stk vs env σ H) {x : D} {G : Hp} (g0 : Rep z G x v) (hg : ∀ G', Core z G' H → Same G G') : Rel z (.d x :: stk) (v :: vs) env σ H := by
  obtain ⟨G', as, bs, rs, re, nd, ow, c⟩ := r
  exact ⟨G', as, bs, ⟨v, vs, [], as, rfl, rfl, ⟨rfl, Rep.mono (hg G' c) g0⟩, rs⟩, re, nd, ow, c⟩
end
end DL

/-! DL4: the relation at a known frozen part; turning the stack; rows of data. -/
namespace DL
open PySem PySem.Spec
open PyProof.Rows L2
def RelG (z : Z) (G : Hp) (stk : List W) (vs : List V) (env : Env) (σ : St) (H : Hp) : Prop :=
  ∃ as bs, RepSt z G H σ stk vs as ∧ RepE z G H env σ bs ∧ (as ++ bs).Nodup ∧ (∀ a ∈ as ++ bs, G a = none ∧ z.Own a) ∧ Core z G H
section
variable {z : Z} {stk s1 s2 : List W} {vs u1 u2 : List V} {env : Env} {σ : St} {G H : Hp} {w : W} {v : V}
theorem Rel.g (r : Rel z stk vs env σ H) : ∃ G, RelG z G stk vs env σ H := r
theorem RelG.r (r : RelG z G stk vs env σ H) : Rel z stk vs env σ H := ⟨G, r⟩
theorem RelG.core (r : RelG z G stk vs env σ H) : Core z G H := let ⟨_, _, _, _, _, _, c⟩ := r; c
theorem RelG.view (r : RelG z G (w :: stk) (v :: vs) env σ H) {w' : W} (h : peek env w = some w') : ∃ as, RepW z G H w' v as := by
  obtain ⟨as, bs, ⟨v', vs', a1, a2, q, q2, r1, r2⟩, re, nd, ow, c⟩ := r
  cases q
  cases w with
  | at_ i =>
    obtain ⟨_, e⟩ := r1
    have h2 : env[i]? = some (some w') := by
      have h3 : (match env[i]? with | some (some w) => some w | _ => none) = some w' := h
      cases e1 : env[i]? with
      | none => rw [e1] at h3; cases h3
      | some o =>
        rw [e1] at h3
        cases o with
        | none => cases h3
        | some w1 => cases h3; rfl
    obtain ⟨v2, b1, bi, b2, e2, _, h3, _⟩ := re.at_ h2
    rw [e] at e2
    cases e2
    exact ⟨bi, h3⟩
  | hole => cases h
  | _ => cases h; exact ⟨a1, r1⟩
theorem RepSt.ds : ∀ {xs : List D} {us : List V}, Reps z G xs us → RepSt z G H σ (xs.map W.d) us []
  | [], _, q => ⟨q, rfl⟩
  | _ :: _, _, ⟨v, vs, q, r, r2⟩ => ⟨v, vs, [], [], q, rfl, ⟨rfl, r⟩, RepSt.ds r2⟩
theorem RelG.push (r : RelG z G stk vs env σ H) {xs : List D} {us : List V} (h : Reps z G xs us) : RelG z G (xs.map W.d ++ stk) (us ++ vs) env σ H := by
  obtain ⟨as, bs, rs, re, nd, ow, c⟩ := r
  exact ⟨as, bs, (RepSt.ds h).app rs, re, nd, ow, c⟩
theorem RelG.push1 (r : RelG z G stk vs env σ H) {x : D} {u : V} (h : Rep z G x u) : RelG z G (W.d x :: stk) (u :: vs) env σ H := r.push (xs := [x]) (us := [u]) ⟨u, [], rfl, h, rfl⟩
/-- the stack turned: what lies under s1 comes up -/
theorem Rel.up (r : Rel z (s1 ++ w :: s2) (u1 ++ v :: u2) env σ H) (hl : u1.length = s1.length) : Rel z (w :: (s1 ++ s2)) (v :: (u1 ++ u2)) env σ H := by
  obtain ⟨G, as, bs, rs, re, nd, ow, c⟩ := r
  obtain ⟨v1, v2, a1, a2, q, q2, r1, r2⟩ := rs.split
  have len : ∀ {ws : List W} {vs : List V} {as : List Addr}, RepSt z G H σ ws vs as → vs.length = ws.length := by
    intro ws
    induction ws with
    | nil => intro vs as h; rw [h.1]; rfl
    | cons w ws ih => intro vs as h; obtain ⟨_, vs', _, _, q, _, _, r⟩ := h; rw [q]; exact congrArg Nat.succ (ih r)
  obtain ⟨e1, e2⟩ := List.append_inj q (by rw [hl, len r1])
  subst e1 q2
  obtain ⟨v', vs', b1, b2, q, q2, rw1, rs2⟩ := r2
  cases e2
  cases q; subst q2
  have pm : List.Perm (a1 ++ (b1 ++ b2) ++ bs) (b1 ++ (a1 ++ b2) ++ bs) := (List.perm_append_comm_assoc a1 b1 b2).append_right bs
  exact ⟨G, b1 ++ (a1 ++ b2), bs, ⟨_, _, b1, a1 ++ b2, rfl, rfl, rw1, r1.app rs2⟩, re, (pm.nodup_iff).mp nd, fun a m => ow a ((pm.mem_iff).mpr m), c⟩
theorem Rel.down (r : Rel z (w :: (s1 ++ s2)) (v :: (u1 ++ u2)) env σ H) (hl : u1.length = s1.length) : Rel z (s1 ++ w :: s2) (u1 ++ v :: u2) env σ H := by
  obtain ⟨G, as, bs, ⟨v', vs', b1, b2, q, q2, rw1, rs2⟩, re, nd, ow, c⟩ := r
  cases q; subst q2
  obtain ⟨v1, v2, a1, a2, q, q2, r1, r2⟩ := rs2.split
  have len : ∀ {ws : List W} {vs : List V} {as : List Addr}, RepSt z G H σ ws vs as → vs.length = ws.length := by
    intro ws
    induction ws with
    | nil => intro vs as h; rw [h.1]; rfl
    | cons w ws ih => intro vs as h; obtain ⟨_, vs', _, _, q, _, _, r⟩ := h; rw [q]; exact congrArg Nat.succ (ih r)
  obtain ⟨e1, e2⟩ := List.append_inj q (by rw [hl, len r1])
  subst e1 e2 q2
  have pm : List.Perm (b1 ++ (a1 ++ a2) ++ bs) (a1 ++ (b1 ++ a2) ++ bs) := (List.perm_append_comm_assoc b1 a1 a2).append_right bs
  exact ⟨G, a1 ++ (b1 ++ a2), bs, r1.app ⟨_, _, b1, a2, rfl, rfl, rw1, r2⟩, re, (pm.nodup_iff).mp nd, fun a m => ow a ((pm.mem_iff).mpr m), c⟩
theorem Rel.swap {w2 : W} {v2 : V} (r : Rel z (w :: w2 :: stk) (v :: v2 :: vs) env σ H) : Rel z (w2 :: w :: stk) (v2 :: v :: vs) env σ H := Rel.up (s1 := [w]) (u1 := [v]) r rfl
theorem RepSt.len : ∀ {ws : List W} {vs : List V} {as : List Addr}, RepSt z G H σ ws vs as → vs.length = ws.length
  | [], _, _, h => by rw [h.1]; rfl
  | _ :: _, _, _, ⟨_, vs', _, _, q, _, _, r⟩ => by rw [q]; exact congrArg Nat.succ (RepSt.len r)
theorem Rel.slen (r : Rel z stk vs env σ H) : vs.length = stk.length := let ⟨_, _, _, rs, _⟩ := r; rs.len
theorem Rel.drop (r : Rel z (s1 ++ s2) (u1 ++ u2) env σ H) (hl : u1.length = s1.length) : Rel z s2 u2 env σ H := by
  induction s1 generalizing u1 with
  | nil =>
    cases u1 with
    | nil => exact r
    | cons _ _ => cases hl
  | cons w s1 ih =>
    cases u1 with
    | nil => cases hl
    | cons v u1 => exact ih (Rel.pop r) (Nat.succ.inj hl)

/-! a row of data -/
def dsOf : List W → Option (List D)
  | [] => some []
  | .d x :: ws => (dsOf ws).map (x :: ·)
  | _ => none
def flat (w : W) : Option (SeqK × List D) := match w with
  | .d (.lst xs) => some (.l, xs)
  | .d (.klst xs) => some (.r, xs)
  | .d (.tup xs) => some (.t, xs)
  | .ol ws => (dsOf ws).map fun xs => (.l, xs)
  | .ot ws => (dsOf ws).map fun xs => (.t, xs)
  | _ => none
theorem dsOf_eq : ∀ {ws : List W} {xs : List D}, dsOf ws = some xs → ws = xs.map .d
  | [], _, h => by cases h; rfl
  | .d x :: ws, xs, h => by
    have h : (dsOf ws).map (x :: ·) = some xs := h
    cases e : dsOf ws with
    | none => rw [e] at h; cases h
    | some ys => rw [e] at h; cases h; rw [dsOf_eq e]; rfl
theorem dsOf_map : ∀ {xs : List D}, dsOf (xs.map .d) = some xs
  | [] => rfl
  | x :: xs => by show (dsOf (xs.map .d)).map (x :: ·) = _; rw [dsOf_map]; rfl
theorem repws_ds : ∀ {xs : List D} {vs : List V} {as : List Addr}, RepWs z G H (xs.map .d) vs as → Reps z G xs vs
  | [], _, _, h => h.1
  | _ :: _, _, _, ⟨v, vs', _, _, q, _, r, r2⟩ => ⟨v, vs', q, r.2, repws_ds r2⟩
theorem reps_ws : ∀ {xs : List D} {vs : List V}, Reps z G xs vs → RepWs z G H (xs.map .d) vs []
  | [], _, h => ⟨h, rfl⟩
  | _ :: _, _, ⟨v, vs', q, r, r2⟩ => ⟨v, vs', [], [], q, rfl, ⟨rfl, r⟩, reps_ws r2⟩
theorem flat_seq {k : SeqK} {xs : List D} (h : flat w = some (k, xs)) : seqW w = some (k, xs.map .d) := by
  cases w with
  | d x => cases x <;> first | (cases h; rfl) | cases h
  | ol ws =>
    have h : (dsOf ws).map (fun xs => (SeqK.l, xs)) = some (k, xs) := h
    cases e : dsOf ws with
    | none => rw [e] at h; cases h
    | some ys => rw [e] at h; cases h; rw [dsOf_eq e]; rfl
  | ot ws =>
    have h : (dsOf ws).map (fun xs => (SeqK.t, xs)) = some (k, xs) := h
    cases e : dsOf ws with
    | none => rw [e] at h; cases h
    | some ys => rw [e] at h; cases h; rw [dsOf_eq e]; rfl
  | _ => cases h
theorem RepW.flat {k : SeqK} {xs : List D} {as : List Addr} (g : Same G H) (r : RepW z G H w v as) (h : flat w = some (k, xs)) : ∃ a us, v = .ref a ∧ SqK z.K H a us k ∧ Reps z G xs us := by
  cases w with
  | d x =>
    obtain ⟨_, r⟩ := r
    cases x with
    | lst xs => cases h; obtain ⟨a, us, q, s, r⟩ := r; exact ⟨a, us, q, g _ _ s, r⟩
    | klst xs => cases h; obtain ⟨a, us, q, s, r⟩ := r; exact ⟨a, us, q, g.seq s, r⟩
    | tup xs => cases h; obtain ⟨a, us, q, s, r⟩ := r; exact ⟨a, us, q, Same.tup g s, r⟩
    | _ => cases h
  | ol ws =>
    have h : (dsOf ws).map (fun xs => (SeqK.l, xs)) = some (k, xs) := h
    cases e : dsOf ws with
    | none => rw [e] at h; cases h
    | some ys => rw [e] at h; cases h; rw [dsOf_eq e] at r; obtain ⟨a, us, as', q, _, e, r⟩ := r; exact ⟨a, us, q, e, repws_ds r⟩
  | ot ws =>
    have h : (dsOf ws).map (fun xs => (SeqK.t, xs)) = some (k, xs) := h
    cases e : dsOf ws with
    | none => rw [e] at h; cases h
    | some ys => rw [e] at h; cases h; rw [dsOf_eq e] at r; obtain ⟨a, us, as', q, _, e, r⟩ := r; exact ⟨a, us, q, SqT.of e, repws_ds r⟩
  | _ => cases h
/-- a row of data read; what is not flat is frozen first -/
def rowD (w : W) (env : Env) (k : SeqK → List D → Env → Prop) : Prop := match (peek env w).bind flat with
  | some (kd, xs) => k kd xs env
  | none => useD w env fun x env' => match x with
    | .lst xs => k .l xs env'
    | .klst xs => k .r xs env'
    | .tup xs => k .t xs env'
    | _ => False
/-- the row stands in the heap; its items lie on the stack -/
theorem Rel.rowD {k : SeqK → List D → Env → Prop} (r : Rel z (w :: stk) (v :: vs) env σ H) (u : DL.rowD w env k) :
    ∃ kd xs env' a us, v = .ref a ∧ SqK z.K H a us kd ∧ us.length = xs.length ∧ Rel z (xs.map .d ++ stk) (us ++ vs) env' σ H ∧ k kd xs env' := by
  have fin : ∀ {w : W} {w' : W} {kd : SeqK} {xs : List D} {env : Env}, Rel z (w :: stk) (v :: vs) env σ H → peek env w = some w' → flat w' = some (kd, xs) → ∃ a us, v = .ref a ∧ SqK z.K H a us kd ∧ us.length = xs.length ∧ Rel z (xs.map .d ++ stk) (us ++ vs) env σ H := fun {w w' kd xs env} r h1 h2 => by
    obtain ⟨G, rg⟩ := r
    obtain ⟨as, rw1⟩ := RelG.view rg h1
    obtain ⟨a, us, q, s, rp⟩ := rw1.flat (RelG.core rg).gh h2
    have r2 : RelG z G (w :: (xs.map .d ++ stk)) (v :: (us ++ vs)) env σ H := by
      have r3 := RelG.push rg rp
      have l : us.length = (xs.map W.d).length := by rw [List.length_map]; have := (reps_rds (H := G) (Same.refl G) rp).len; rw [List.length_map] at this; exact this
      obtain ⟨as, bs, rs, re, nd, ow, c⟩ := r3
      obtain ⟨v1, v2, a1, a2, q, q2, r1, r2⟩ := rs.split
      obtain ⟨e1, e2⟩ := List.append_inj q (by rw [l, r1.len])
      subst e1 q2
      obtain ⟨v', vs', b1, b2, q, q2, rw1, rs2⟩ := r2
      cases e2
      cases q; subst q2
      have pm : List.Perm (a1 ++ (b1 ++ b2) ++ bs) (b1 ++ (a1 ++ b2) ++ bs) := (List.perm_append_comm_assoc a1 b1 b2).append_right bs
      exact ⟨b1 ++ (a1 ++ b2), bs, ⟨_, _, b1, a1 ++ b2, rfl, rfl, rw1, r1.app rs2⟩, re, (pm.nodup_iff).mp nd, fun a m => ow a ((pm.mem_iff).mpr m), c⟩
    have l : us.length = xs.length := by have := (reps_rds (H := G) (Same.refl G) rp).len; rw [List.length_map] at this; exact this
    exact ⟨a, us, q, s, l, Rel.pop ⟨G, r2⟩⟩
  unfold DL.rowD at u
  cases e : (peek env w).bind flat with
  | some p =>
    obtain ⟨kd, xs⟩ := p
    rw [e] at u
    cases e1 : peek env w with
    | none => rw [e1] at e; cases e
    | some w' =>
      rw [e1] at e
      obtain ⟨a, us, q, s, l, r2⟩ := fin r e1 e
      exact ⟨kd, xs, env, a, us, q, s, l, r2, u⟩
  | none =>
    rw [e] at u
    obtain ⟨x, env', r2, hk⟩ := r.useD u
    cases x with
    | lst xs => obtain ⟨a, us, q, s, l, r3⟩ := fin r2 rfl rfl; exact ⟨.l, xs, env', a, us, q, s, l, r3, hk⟩
    | klst xs => obtain ⟨a, us, q, s, l, r3⟩ := fin r2 rfl rfl; exact ⟨.r, xs, env', a, us, q, s, l, r3, hk⟩
    | tup xs => obtain ⟨a, us, q, s, l, r3⟩ := fin r2 rfl rfl; exact ⟨.t, xs, env', a, us, q, s, l, r3, hk⟩
    | _ => exact hk.elim
end
end DL

/-! DL5: judgements over plain state; expressions and tests. -/
namespace DL
open PySem PySem.Spec
open PyProof.Rows L2
/-- an error: its class, its attributes -/
structure Exn where
  c : String
  fs : List (String × D)
abbrev DK := W → Env → Prop
abbrev XC := Exn → Env → Prop
abbrev DTE := Env → DK → XC → Prop
abbrev DTT := Env → (Bool → Env → Prop) → XC → Prop
abbrev DTA := Env → (List W → Env → Prop) → XC → Prop
def RelX (z : Z) (x : Exn) (cls : Value) (d : Option Addr) (env : Env) (σ : St) (H : Hp) : Prop :=
  ∃ G C, RelG z G [] [] env σ H ∧ z.mg (Str.ofString x.c) = some (.ref C) ∧ cls = .ref C ∧
    (match x.fs with | [] => d = none | _ => ∃ dx us, d = some dx ∧ H dx = some (.xd us) ∧ RepF z G x.fs us)
structure Okz (X : Cx) (z : Z) : Prop where
  k : z.K = X.K
  m : z.mg = X.mg
  op : z.op = false
section
variable (X : Cx)
/-- e's reading over plain state is t -/
def DE (e : Expr) (t : DTE) : Prop := ∀ Wx, L2N.Takes X Wx → ∃ te, PE X e te ∧ ∀ z stk vs env σ H (Q : VK) (k : DK) (kx : XC), Okz X z → Rel z stk vs env σ H → t env k kx →
  (∀ w env' v H', Rel z (w :: stk) (v :: vs) env' σ H' → k w env' → Q v H') → (∀ x env' cls d H', RelX z x cls d env' σ H' → kx x env' → Wx cls d σ H') → te σ H Q
def DT (e : Expr) (t : DTT) : Prop := ∀ Wx, L2N.Takes X Wx → ∃ te, PT X e te ∧ ∀ z stk vs env σ H (Q : Bool → Hp → Prop) (k : Bool → Env → Prop) (kx : XC), Okz X z → Rel z stk vs env σ H → t env k kx →
  (∀ b env' H', Rel z stk vs env' σ H' → k b env' → Q b H') → (∀ x env' cls d H', RelX z x cls d env' σ H' → kx x env' → Wx cls d σ H') → te σ H Q
/-- .. whatever the whole is (and, or) -/
def DW (e : Expr) (t : DTT) : Prop := ∀ Wx, L2N.Takes X Wx → ∃ te, PW X e te ∧ ∀ z stk vs env σ H (Q : Bool → Hp → Prop) (k : Bool → Env → Prop) (kx : XC), Okz X z → Rel z stk vs env σ H → t env k kx →
  (∀ b env' H', Rel z stk vs env' σ H' → k b env' → Q b H') → (∀ x env' cls d H', RelX z x cls d env' σ H' → kx x env' → Wx cls d σ H') → te σ H Q
def DA (es : List Expr) (t : DTA) : Prop := ∀ Wx, L2N.Takes X Wx → ∃ te, PA X es te ∧ ∀ z stk vs env σ H (Q : List V → Hp → Prop) (k : List W → Env → Prop) (kx : XC), Okz X z → Rel z stk vs env σ H → t env k kx →
  (∀ ws env' us H', us.length = ws.length → Rel z (ws ++ stk) (us ++ vs) env' σ H' → k ws env' → Q us H') → (∀ x env' cls d H', RelX z x cls d env' σ H' → kx x env' → Wx cls d σ H') → te σ H Q
end

/-! values at hand -/
def dVar (i : Nat) : DTE := fun env k _ => match env[i]? with
  | some (some _) => k (.at_ i) env
  | _ => False
def dMov (i : Nat) : DTE := fun env k _ => match env[i]? with
  | some (some w) => k w (env.set i none)
  | _ => False
def dC (x : D) : DTE := fun env k _ => k (.d x) env
section
variable {X : Cx} {e a b : Expr} {ta tb : DTE} {pos : Pos}
theorem de_var {i : Nat} {x : Str} (hN : X.N[i]? = some x) (hv : Vis X.env.scope x) (hd : (x == ("__debug__" : Str)) = false) (hcd : (x == ("__classdict__" : Str)) = false) : DE X (.Name x pos) (dVar i) := fun Wx tk => by
  refine ⟨_, pe_var hN hv hd hcd, fun z stk vs env σ H Q k kx ok r t q qx => ?_⟩
  unfold dVar at t
  cases h : env[i]? with
  | none => simp only [h] at t
  | some o =>
    cases o with
    | none => simp only [h] at t
    | some w =>
      simp only [h] at t
      obtain ⟨v, e⟩ := r.slot h
      exact ⟨v, e, q _ _ _ _ (r.pushAt e) t⟩
theorem de_mov {i : Nat} {x : Str} (hN : X.N[i]? = some x) (hv : Vis X.env.scope x) (hd : (x == ("__debug__" : Str)) = false) (hcd : (x == ("__classdict__" : Str)) = false) : DE X (.Name x pos) (dMov i) := fun Wx tk => by
  refine ⟨_, pe_var hN hv hd hcd, fun z stk vs env σ H Q k kx ok r t q qx => ?_⟩
  unfold dMov at t
  cases h : env[i]? with
  | none => simp only [h] at t
  | some o =>
    cases o with
    | none => simp only [h] at t
    | some w =>
      simp only [h] at t
      obtain ⟨G, as, bs, rs, re, nd, ow, c⟩ := r
      obtain ⟨v, b1, bi, b2, h1, h2, h3, _, _, h6⟩ := re.at_ h
      subst h2
      refine ⟨v, h1, q _ _ _ _ ⟨G, bi ++ as, b1 ++ b2, ⟨v, vs, bi, as, rfl, rfl, .of h3, rs⟩, h6 G H (Same.refl _) (fun _ _ => rfl), ?_, fun a m => ow a ?_, c⟩ t⟩
      · have pm : List.Perm (as ++ (b1 ++ (bi ++ b2))) (bi ++ as ++ (b1 ++ b2)) := by
          refine ((List.perm_append_comm_assoc b1 bi b2).append_left as).trans ?_
          refine (List.perm_append_comm_assoc as bi (b1 ++ b2)).trans ?_
          rw [List.append_assoc]
        exact (pm.nodup_iff).mp nd
      · simp only [List.mem_append] at m ⊢
        rcases m with (m | m) | (m | m)
        · exact .inr (.inr (.inl m))
        · exact .inl m
        · exact .inr (.inl m)
        · exact .inr (.inr (.inr m))
/-- what stands for itself in every heap -/
def Fixed (z : Z) (x : D) (v : V) : Prop := ∀ G, Rep z G x v
theorem de_c {x : D} {v : V} (h : PE X e (tC v)) (f : ∀ z, Okz X z → Fixed z x v) : DE X e (dC x) := fun Wx tk =>
  ⟨_, h, fun z stk vs env σ H Q k kx ok r t q qx => q _ _ _ _ (r.push fun G _ _ _ => f z ok G) t⟩
theorem de_int {i j} : DE X (.Constant (.int i) j pos) (dC (.int i)) := de_c pe_int fun _ _ _ => rfl
theorem de_bl {i j} : DE X (.Constant (.bool i) j pos) (dC (.bl i)) := de_c pe_bl fun _ _ _ => rfl
theorem de_non {j} : DE X (.Constant .none j pos) (dC .non) := de_c pe_non fun _ _ _ => rfl
theorem de_str {x : Str} {j} : DE X (.Constant (.str x) j pos) (dC (.str x.cps.toList)) := de_c pe_str fun _ _ _ => by
  show V.str x = V.str ⟨x.cps.toList.toArray⟩
  cases x; rfl
/-- a name of the module -/
theorem de_glob {x : Str} {d : D} {u : Value} {v : V} (hg : Gl X x) (hm : X.mg x = some u) (r : RelV v u) (f : ∀ z, Okz X z → Fixed z d v) (hd : (x == ("__debug__" : Str)) = false) : DE X (.Name x pos) (dC d) := de_c (pe_glob hg hm r hd) f
theorem de_bltn {x : Str} {n : String} (hg : Gl X x) (hm : X.mg x = none) (hv : bootBuiltins x = some (.type n)) (hn : x ≠ "__name__") (hd : (x == ("__debug__" : Str)) = false) : DE X (.Name x pos) (dC (.ty n)) := de_c (pe_bltn (v := .ty n) hg hm hv rfl hn hd) fun _ _ _ => rfl

/-! two-place operations -/
abbrev DOp := W → W → Env → DK → Prop
def dOp (s : DOp) (ta tb : DTE) : DTE := fun env k kx => ta env (fun wa e1 => tb e1 (fun wb e2 => s wa wb e2 k) kx) kx
/-- s, by values: the right one on top -/
def OpD (X : Cx) (r : R2) (s : DOp) : Prop := ∀ z stk vs env σ H (Q : VK) (k : DK) wa wb va vb, Okz X z → Rel z (wb :: wa :: stk) (vb :: va :: vs) env σ H → s wa wb env k →
  (∀ w env' v H', Rel z (w :: stk) (v :: vs) env' σ H' → k w env' → Q v H') → r va vb H Q
theorem de_op {f : Expr} {r : R2} {s : DOp} (he : ∀ {ta tb : TE}, PE X a ta → PE X b tb → PE X f (tOp r ta tb)) (hs : OpD X r s) (ha : DE X a ta) (hb : DE X b tb) : DE X f (dOp s ta tb) := fun Wx tk => by
  obtain ⟨te1, p1, h1⟩ := ha Wx tk
  obtain ⟨te2, p2, h2⟩ := hb Wx tk
  refine ⟨_, he p1 p2, fun z stk vs env σ H Q k kx ok rl t q qx => ?_⟩
  refine h1 z stk vs env σ H _ _ kx ok rl t (fun w env' v H' r1 k1 => ?_) qx
  refine h2 z _ _ env' σ H' _ _ kx ok r1 k1 (fun w2 env2 v2 H2 r2 k2 => ?_) qx
  exact hs z stk vs env2 σ H2 Q k _ _ _ _ ok r2 k2 q
theorem OpR.or {f : Value → Value → Sem Value} {r r' : R2} (h : OpR X f r) (h' : OpR X f r') : OpR X f (fun x y H Q => r x y H Q ∨ r' x y H Q) := fun pins s σ H x y v u Q I rx ry q => q.elim (h pins s σ H x y v u Q I rx ry) (h' pins s σ H x y v u Q I rx ry)

/-! ints -/
theorem rd_int {z : Z} {H : Hp} {i : Int} {v : V} (h : Rd1 z H (.d (.int i)) v) : v = .int i := let ⟨_, _, _, _, r⟩ := h; r
theorem rd_str {z : Z} {H : Hp} {s : List Nat} {v : V} (h : Rd1 z H (.d (.str s)) v) : v = .str ⟨s.toArray⟩ := let ⟨_, _, _, _, r⟩ := h; r
theorem rd_bl {z : Z} {H : Hp} {b : Bool} {v : V} (h : Rd1 z H (.d (.bl b)) v) : v = .bl b := let ⟨_, _, _, _, r⟩ := h; r
theorem rd_non {z : Z} {H : Hp} {v : V} (h : Rd1 z H (.d .non) v) : v = .non := let ⟨_, _, _, _, r⟩ := h; r
def sInt (C : Int → Int → Prop) (g : Int → Int → Int) : DOp := fun wa wb env k => match peek env wa, peek env wb with
  | some (.d (.int i)), some (.d (.int j)) => C i j ∧ k (.d (.int (g i j))) env
  | _, _ => False
theorem sInt_elim {C : Int → Int → Prop} {g : Int → Int → Int} {wa wb : W} {env : Env} {k : DK} (h : sInt C g wa wb env k) : ∃ i j, peek env wa = some (.d (.int i)) ∧ peek env wb = some (.d (.int j)) ∧ C i j ∧ k (.d (.int (g i j))) env := by
  unfold sInt at h
  split at h
  · rename_i i j h1 h2
    exact ⟨i, j, h1, h2, h⟩
  · exact h.elim
theorem opd_int {C : Int → Int → Prop} {g : Int → Int → Int} {C' : Int → Int → Prop} {g' : Int → Int → Int} (hC : ∀ i j, C i j → C' i j) (hg : ∀ i j, C i j → g' i j = g i j) : OpD X (rI C' fun i j => .int (g' i j)) (sInt C g) := fun z stk vs env σ H Q k wa wb va vb ok r h q => by
  obtain ⟨i, j, h1, h2, hc, hk⟩ := sInt_elim h
  have e2 := rd_int (r.look h2)
  have e1 := rd_int (r.look2 h1)
  subst e1 e2
  refine ⟨i, j, rfl, rfl, hC i j hc, ?_⟩
  show Q (.int (g' i j)) H
  rw [hg i j hc]
  exact q _ _ _ _ r.pop.pop.pushInt hk
theorem opd_int0 {g : Int → Int → Int} : OpD X (rI0 fun i j => .int (g i j)) (sInt (fun _ _ => True) g) := fun z stk vs env σ H Q k wa wb va vb ok r h q => by
  obtain ⟨i, j, h1, h2, hc, hk⟩ := sInt_elim h
  have e2 := rd_int (r.look h2)
  have e1 := rd_int (r.look2 h1)
  subst e1 e2
  exact ⟨i, j, rfl, rfl, q _ _ _ _ r.pop.pop.pushInt hk⟩
/-- a product whose size is known -/
def MulFit (i j : Int) : Prop := IntMulOk i j
def PowOk (i j : Int) : Prop := 0 ≤ j ∧ (Builtin.Int.intBits i : Int) * j ≤ 2 ^ 27
def DivOk (_ j : Int) : Prop := 0 < j ∧ j < 1073741824
theorem op_mulA : OpR X (binaryOp .Mult) (rI MulFit fun i j => .int (i * j)) := opI fun _ _ _ _ _ _ _ hc q => mul_int q hc
theorem op_powA : OpR X (binaryOp .Pow) (rI PowOk fun i j => .int (i ^ j.toNat)) := opI fun _ _ _ _ _ _ _ hc q => PyProof.Rows.pow_int hc.1 hc.2 q
/-! a row joined, repeated -/
def sRows (f : SeqK → List D → SeqK → List D → Env → DK → Prop) : DOp := fun wa wb env k => rowD wb env fun kb ys e1 => rowD wa e1 fun ka xs e2 => f ka xs kb ys e2 k
/-- both rows stand in the heap; all items lie on the stack -/
theorem Rel.rows {z : Z} {stk : List W} {vs : List V} {env : Env} {σ : St} {H : Hp} {wa wb : W} {va vb : V} {f : SeqK → List D → SeqK → List D → Env → Prop} (r : Rel z (wb :: wa :: stk) (vb :: va :: vs) env σ H)
    (u : DL.rowD wb env fun kb ys e1 => DL.rowD wa e1 fun ka xs e2 => f ka xs kb ys e2) : ∃ ka xs kb ys env' a us b ts, va = .ref a ∧ SqK z.K H a us ka ∧ us.length = xs.length ∧ vb = .ref b ∧ SqK z.K H b ts kb ∧ ts.length = ys.length ∧
      Rel z ((xs ++ ys).map .d ++ stk) ((us ++ ts) ++ vs) env' σ H ∧ f ka xs kb ys env' := by
  obtain ⟨kb, ys, e1, b, ts, eb, sb, lb, r1, u1⟩ := r.rowD u
  have r2 := Rel.up (s1 := ys.map .d) (u1 := ts) r1 (by rw [List.length_map]; exact lb)
  obtain ⟨ka, xs, e2, a, us, ea, sa, la, r3, u2⟩ := r2.rowD u1
  refine ⟨ka, xs, kb, ys, e2, a, us, b, ts, ea, sa, la, eb, sb, lb, ?_, u2⟩
  rw [List.map_append, List.append_assoc, List.append_assoc]
  exact r3
def kCat (ka : SeqK) (xs : List D) (kb : SeqK) (ys : List D) (env : Env) (k : DK) : Prop := xs.length + ys.length ≤ sizeLine ∧ match ka, kb with
  | .l, .l => k (.ol ((xs ++ ys).map .d)) env
  | .t, .t => xs ≠ [] ∧ ys ≠ [] ∧ k (.ot ((xs ++ ys).map .d)) env
  | _, _ => False
theorem all_tree {xs : List D} : (xs.map W.d).all tree = true := by
  rw [List.all_map]; exact List.all_eq_true.mpr fun _ _ => rfl
def rAddA (K : PySem.W.Frag) : R2 := fun x y H Q => rI0 (fun i j => .int (i + j)) x y H Q ∨ (∃ i j, x = .str i ∧ y = .str j ∧ i.length + j.length ≤ sizeLine ∧ Q (.str (i ++ j)) H) ∨ rCat x y H Q ∨ rCatT K x y H Q
theorem op_addA : OpR X (binaryOp .Add) (rAddA X.K) := OpR.or op_add (OpR.or op_add_str (OpR.or op_cat op_catT))
def sAdd : DOp := fun wa wb env k => match peek env wa, peek env wb with
  | some (.d (.int i)), some (.d (.int j)) => k (.d (.int (i + j))) env
  | some (.d (.str s)), some (.d (.str t)) => s.length + t.length ≤ sizeLine ∧ k (.d (.str (s ++ t))) env
  | _, _ => sRows kCat wa wb env k
theorem str_app (s t : List Nat) : (⟨s.toArray⟩ : Str) ++ ⟨t.toArray⟩ = ⟨(s ++ t).toArray⟩ := by
  show Str.mk (s.toArray ++ t.toArray) = _
  rw [List.append_toArray]
theorem str_len (s : List Nat) : (⟨s.toArray⟩ : Str).length = s.length := by
  show s.toArray.size = _
  exact List.size_toArray ..
theorem opd_rows {z : Z} {stk : List W} {vs : List V} {env : Env} {σ : St} {H : Hp} {wa wb : W} {va vb : V} {Q : VK} {k : DK} (ok : Okz X z) (r : Rel z (wb :: wa :: stk) (vb :: va :: vs) env σ H) (u : sRows kCat wa wb env k)
    (q : ∀ w env' v H', Rel z (w :: stk) (v :: vs) env' σ H' → k w env' → Q v H') : rCat va vb H Q ∨ rCatT X.K va vb H Q := by
  obtain ⟨ka, xs, kb, ys, env', a, us, b, ts, ea, sa, la, eb, sb, lb, r3, hl, hk⟩ := Rel.rows (f := fun ka xs kb ys e2 => kCat ka xs kb ys e2 k) r u
  subst ea eb
  have len : (us ++ ts).length = ((xs ++ ys).map W.d).length := by rw [List.length_map, List.length_append, List.length_append, la, lb]
  cases ka <;> cases kb <;> first | exact hk.elim | skip
  · exact .inl ⟨a, b, us, ts, rfl, rfl, sa, sb, by rw [la, lb]; exact hl, fun p hp => q _ _ _ _ (r3.newL len all_tree hp ok.op) hk⟩
  · obtain ⟨h1, h2, hk⟩ := hk
    have n1 : us ≠ [] := fun e => h1 (List.eq_nil_of_length_eq_zero (by rw [← la, e]; rfl))
    have n2 : ts ≠ [] := fun e => h2 (List.eq_nil_of_length_eq_zero (by rw [← lb, e]; rfl))
    refine .inr ⟨a, b, us, ts, rfl, rfl, ok.k ▸ sa, ok.k ▸ sb, n1, by rw [la, lb]; exact hl, ?_⟩
    exact ⟨fun e => absurd e n2, fun _ p hp => q _ _ _ _ (r3.newT len all_tree hp ok.op) hk⟩
end
end DL
namespace DL
open PySem PySem.Spec
open PyProof.Rows L2
section
variable {X : Cx} {e a b : Expr} {ta tb : DTE} {pos : Pos}
theorem peek_int_str {z : Z} {H : Hp} {stk : List W} {vs : List V} {env : Env} {σ : St} {w : W} {v : V} (r : Rel z (w :: stk) (v :: vs) env σ H) : (∀ i, peek env w = some (.d (.int i)) → v = .int i) ∧ (∀ s, peek env w = some (.d (.str s)) → v = .str ⟨s.toArray⟩) :=
  ⟨fun i h => rd_int (r.look h), fun s h => rd_str (r.look h)⟩
theorem opd_add : OpD X (rAddA X.K) sAdd := fun z stk vs env σ H Q k wa wb va vb ok r h q => by
  unfold sAdd at h
  split at h
  · rename_i i j h1 h2
    have e2 := rd_int (r.look h2)
    have e1 := rd_int (r.look2 h1)
    subst e1 e2
    exact .inl ⟨i, j, rfl, rfl, q _ _ _ _ r.pop.pop.pushInt h⟩
  · rename_i i j h1 h2
    have e2 := rd_str (r.look h2)
    have e1 := rd_str (r.look2 h1)
    subst e1 e2
    refine .inr (.inl ⟨_, _, rfl, rfl, by rw [str_len, str_len]; exact h.1, ?_⟩)
    rw [str_app]
    exact q _ _ _ _ r.pop.pop.pushStr h.2
  · exact .inr (.inr (opd_rows ok r h q))
theorem de_add (ha : DE X a ta) (hb : DE X b tb) : DE X (.BinOp a .Add b pos) (dOp sAdd ta tb) := de_op (fun h h' => pe_op op_addA h h') opd_add ha hb
theorem de_sub (ha : DE X a ta) (hb : DE X b tb) : DE X (.BinOp a .Sub b pos) (dOp (sInt (fun _ _ => True) fun i j => i - j) ta tb) := de_op (fun h h' => pe_op op_sub h h') opd_int0 ha hb
theorem de_fdiv (ha : DE X a ta) (hb : DE X b tb) : DE X (.BinOp a .FloorDiv b pos) (dOp (sInt DivOk fun i j => i / j) ta tb) := de_op (fun h h' => pe_op op_fdiv h h') (opd_int (fun _ _ h => h) fun _ _ _ => rfl) ha hb
theorem de_mod (ha : DE X a ta) (hb : DE X b tb) : DE X (.BinOp a .Mod b pos) (dOp (sInt (fun _ j => 0 < j) fun i j => i % j) ta tb) := de_op (fun h h' => pe_op op_mod h h') (opd_int (fun _ _ h => h) fun _ _ _ => rfl) ha hb
theorem de_pow (ha : DE X a ta) (hb : DE X b tb) : DE X (.BinOp a .Pow b pos) (dOp (sInt PowOk fun i j => i ^ j.toNat) ta tb) := de_op (fun h h' => pe_op op_powA h h') (opd_int (fun _ _ h => h) fun _ _ _ => rfl) ha hb
theorem de_shl (ha : DE X a ta) (hb : DE X b tb) : DE X (.BinOp a .LShift b pos) (dOp (sInt CPow fun i j => i * 2 ^ j.toNat) ta tb) := de_op (fun h h' => pe_op op_shl h h') (opd_int (fun _ _ h => h) fun _ _ _ => rfl) ha hb
theorem de_shr (ha : DE X a ta) (hb : DE X b tb) : DE X (.BinOp a .RShift b pos) (dOp (sInt (fun _ j => 0 ≤ j) fun i j => i / 2 ^ j.toNat) ta tb) := de_op (fun h h' => pe_op op_shr h h') (opd_int (fun _ _ h => h) fun _ _ _ => rfl) ha hb
theorem de_band (ha : DE X a ta) (hb : DE X b tb) : DE X (.BinOp a .BitAnd b pos) (dOp (sInt (fun _ _ => True) Builtin.bitAnd) ta tb) := de_op (fun h h' => pe_op op_and h h') opd_int0 ha hb
theorem de_bor (ha : DE X a ta) (hb : DE X b tb) : DE X (.BinOp a .BitOr b pos) (dOp (sInt (fun _ _ => True) Builtin.bitOr) ta tb) := de_op (fun h h' => pe_op op_or h h') opd_int0 ha hb
theorem de_bxor (ha : DE X a ta) (hb : DE X b tb) : DE X (.BinOp a .BitXor b pos) (dOp (sInt (fun _ _ => True) Builtin.bitXor) ta tb) := de_op (fun h h' => pe_op op_xor h h') opd_int0 ha hb

/-! times: ints, a text or a list repeated -/
def reps (s : List Nat) (n : Nat) : List Nat := (List.replicate n s).flatten
theorem reps_len (s : List Nat) (n : Nat) : (reps s n).length = s.length * n := by
  unfold reps
  induction n with
  | zero => simp
  | succ n ih => rw [List.replicate_succ, List.flatten_cons, List.length_append, ih, Nat.mul_succ, Nat.add_comm]
def RepOk (m : Nat) (n : Int) : Prop := -(2 ^ 63) ≤ n ∧ n < 2 ^ 63 ∧ m * n.toNat ≤ sizeLine
theorem foldl_app (s : Array Nat) : ∀ (n : Nat) (acc : Array Nat), ((List.replicate n s).foldl (· ++ ·) acc).toList = acc.toList ++ (List.replicate n s.toList).flatten
  | 0, acc => by simp
  | n + 1, acc => by
    rw [List.replicate_succ, List.foldl_cons, foldl_app s n, List.replicate_succ, List.flatten_cons, Array.toList_append, List.append_assoc]
theorem op_repS : OpR X (binaryOp .Mult) (fun x y H Q => ∃ (s : List Nat) (n : Int), x = .str ⟨s.toArray⟩ ∧ y = .int n ∧ RepOk s.length n ∧ Q (.str ⟨(reps s n.toNat).toArray⟩) H) := by
  intro pins s σ H x y v u Q I rx ry h
  obtain ⟨z, n, rfl, rfl, ⟨h1, h2, h3⟩, q⟩ := h
  obtain ⟨t, rfl⟩ := rx
  obtain ⟨t', rfl⟩ := ry
  have hs : sizeLine = 16777216 := sizeLine_eq
  have hl : (⟨z.toArray⟩ : Str).length = z.length := str_len z
  have hprod : ¬ n < 1 → (z.length : Int) * n ≤ 16777216 := fun hn => by
    have e : (n.toNat : Int) = n := Int.toNat_of_nonneg (by omega)
    have : ((z.length * n.toNat : Nat) : Int) ≤ 16777216 := by omega
    rw [Int.natCast_mul, e] at this
    exact this
  refine PySem.SB.mul ⟨?_, fun hn _ => ?_, fun hn _ => ?_⟩ fun t2 k => ?_
  · rw [decide_eq_false (by omega), decide_eq_false (by omega)]; rfl
  · rw [hl]
    have hd : (z.length : Int) ≤ (2 ^ 63 - 1) / n := Int.le_ediv_of_mul_le (by omega) (Int.le_trans (hprod hn) (by decide))
    omega
  · rw [hl]
    exact decide_eq_false (by omega)
  · refine ⟨.str ⟨(reps z n.toNat).toArray⟩, H, ?_, ⟨t2, ?_⟩, q⟩
    · exact I.tok _
    · congr 1
      unfold Txt.mul
      by_cases hn : n < 1
      · rw [if_pos hn]
        have : n.toNat = 0 := by omega
        rw [this]; rfl
      · rw [if_neg hn]
        split
        · rename_i h4
          rcases Bool.or_eq_true_iff.mp h4 with h4 | h4
          · have : n.toNat = 1 := by have := eq_of_beq h4; omega
            rw [this]; unfold reps; simp
          · have h5 : z.length = 0 := by rw [← hl]; exact eq_of_beq h4
            have : z = [] := List.eq_nil_of_length_eq_zero h5
            subst this
            have h6 : reps [] n.toNat = [] := List.eq_nil_of_length_eq_zero (by rw [reps_len]; simp)
            rw [h6]
        · have e := foldl_app z.toArray n.toNat #[]
          have e2 : (List.replicate n.toNat z.toArray).foldl (· ++ ·) #[] = ((List.replicate n.toNat z.toArray).foldl (· ++ ·) #[]).toList.toArray := by simp
          rw [e2, e]
          simp [reps]
end
end DL

/-! DL6: times, comparisons, truth, and, or, not, displays, subscripts, slices. -/
namespace DL
open PySem PySem.Spec
open PyProof.Rows L2
section
variable {X : Cx} {e a b c : Expr} {ta tb tc : DTE} {pos : Pos}
def rMulA : R2 := fun x y H Q => rI MulFit (fun i j => .int (i * j)) x y H Q ∨ (∃ (s : List Nat) (n : Int), x = .str ⟨s.toArray⟩ ∧ y = .int n ∧ RepOk s.length n ∧ Q (.str ⟨(reps s n.toNat).toArray⟩) H) ∨ rRep x y H Q
theorem op_mulAll : OpR X (binaryOp .Mult) rMulA := OpR.or op_mulA (OpR.or op_repS op_rep)
def repsD (xs : List D) (n : Nat) : List D := (List.replicate n xs).flatten
def sMul : DOp := fun wa wb env k => match peek env wb with
  | some (.d (.int n)) => match peek env wa with
    | some (.d (.int i)) => MulFit i n ∧ k (.d (.int (i * n))) env
    | some (.d (.str s)) => RepOk s.length n ∧ k (.d (.str (reps s n.toNat))) env
    | _ => rowD wa env fun ka xs e1 => ka = .l ∧ RepOk xs.length n ∧ k (.ol ((repsD xs n.toNat).map .d)) e1
  | _ => False
theorem reps_append {z : Z} {G : Hp} : ∀ {xs ys : List D} {us ts : List V}, Reps z G xs us → Reps z G ys ts → Reps z G (xs ++ ys) (us ++ ts)
  | [], _, _, _, q, r => by cases q; exact r
  | _ :: _, _, _, _, ⟨v, vs, q, r, r2⟩, r' => by subst q; exact ⟨v, _, rfl, r, reps_append r2 r'⟩
theorem reps_rep {z : Z} {G : Hp} {xs : List D} {us : List V} (r : Reps z G xs us) : ∀ n, Reps z G (List.replicate n xs).flatten (List.replicate n us).flatten
  | 0 => rfl
  | n + 1 => by rw [List.replicate_succ, List.replicate_succ, List.flatten_cons, List.flatten_cons]; exact reps_append r (reps_rep r n)
/-- the data on top of the stack, as they lie in a frozen part -/
theorem Rel.ds {z : Z} {stk : List W} {vs : List V} {env : Env} {σ : St} {H : Hp} {xs : List D} {us : List V} (r : Rel z (xs.map .d ++ stk) (us ++ vs) env σ H) (hl : us.length = xs.length) : ∃ G, RelG z G stk vs env σ H ∧ Reps z G xs us := by
  obtain ⟨G, as, bs, rs, re, nd, ow, c⟩ := r
  obtain ⟨v1, v2, a1, a2, q, q2, r1, r2⟩ := rs.split
  obtain ⟨e1, e2⟩ := List.append_inj q (by rw [hl, r1.len, List.length_map])
  subst e1 e2 q2
  have r1' := repws_ds (r1.ws all_tree)
  refine ⟨G, ⟨a2, bs, r2, re, ?_, fun a m => ow a ?_, c⟩, r1'⟩
  · rw [List.append_assoc] at nd; exact (List.nodup_append.mp nd).2.1
  · rw [List.append_assoc]; exact List.mem_append_right _ m
theorem opd_mul : OpD X rMulA sMul := fun z stk vs env σ H Q k wa wb va vb ok r h q => by
  unfold sMul at h
  split at h
  · rename_i n h2
    have e2 := rd_int (r.look h2)
    subst e2
    split at h
    · rename_i i h1
      have e1 := rd_int (r.look2 h1)
      subst e1
      exact .inl ⟨i, n, rfl, rfl, h.1, q _ _ _ _ r.pop.pop.pushInt h.2⟩
    · rename_i s h1
      have e1 := rd_str (r.look2 h1)
      subst e1
      exact .inr (.inl ⟨s, n, rfl, rfl, h.1, q _ _ _ _ r.pop.pop.pushStr h.2⟩)
    · obtain ⟨ka, xs, e1, a, us, ea, sa, la, r1, hk, ⟨h3, h4, h5⟩, hq⟩ := r.pop.rowD h
      subst ea hk
      refine .inr (.inr ⟨a, n, us, rfl, rfl, sa, h3, h4, by rw [la]; exact h5, fun p hp => ?_⟩)
      obtain ⟨G, rg, rp⟩ := r1.ds la
      have r2 := rg.push (reps_rep rp n.toNat)
      refine q _ _ _ _ (r2.r.newL ?_ all_tree hp ok.op) hq
      have := (reps_rds (H := G) (Same.refl G) (reps_rep rp n.toNat)).len
      exact this
  · exact h.elim
theorem de_mul (ha : DE X a ta) (hb : DE X b tb) : DE X (.BinOp a .Mult b pos) (dOp sMul ta tb) := de_op (fun h h' => pe_op op_mulAll h h') opd_mul ha hb

/-! equality of data -/
mutual
def D.py : D → PyData
  | .bl b => .bool b
  | .int i => .int i
  | .str s => .str ⟨s.toArray⟩
  | .lst xs => .list (pys xs)
  | .klst xs => .list (pys xs)
  | .tup xs => .tuple (pys xs)
  | _ => .none
def pys : List D → List PyData
  | [] => []
  | x :: xs => x.py :: pys xs
end
mutual
/-- data that == reads, not deeper than n -/
def okq : Nat → D → Bool
  | _, .non => true
  | _, .bl _ => true
  | _, .int _ => true
  | _, .str s => s.all (· < 1114112)
  | n + 1, .lst xs => okqs n xs
  | n + 1, .klst xs => okqs n xs
  | n + 1, .tup xs => okqs n xs
  | _, _ => false
def okqs : Nat → List D → Bool
  | _, [] => true
  | n, x :: xs => okq n x && okqs n xs
end
mutual
/-- == of data -/
def eqv : D → D → Bool
  | .non, .non => true
  | .bl a, .bl b => a == b
  | .bl a, .int j => (if a then 1 else 0) == j
  | .int i, .bl b => i == (if b then 1 else 0)
  | .int i, .int j => i == j
  | .str x, .str y => x == y
  | .lst xs, .lst ys => eqvs xs ys
  | .klst xs, .lst ys => eqvs xs ys
  | .lst xs, .klst ys => eqvs xs ys
  | .klst xs, .klst ys => eqvs xs ys
  | .tup xs, .tup ys => eqvs xs ys
  | _, _ => false
def eqvs : List D → List D → Bool
  | [], [] => true
  | x :: xs, y :: ys => eqv x y && eqvs xs ys
  | _, _ => false
end
theorem str_beq (x y : List Nat) : ((⟨x.toArray⟩ : Str) == ⟨y.toArray⟩) = (x == y) := by
  rw [Bool.eq_iff_iff, beq_iff_eq, beq_iff_eq]
  constructor
  · intro h; have := Str.mk.inj h; simpa using this
  · intro h; rw [h]
mutual
theorem eqv_py : ∀ {n m : Nat} (x y : D), okq n x = true → okq m y = true → PyData.eqv x.py y.py = eqv x y
  | n, m, x, y, hx, hy => by
    cases x <;> cases y <;> first
      | rfl
      | exact str_beq _ _
      | (exfalso; simp [okq] at hx; done)
      | (exfalso; simp [okq] at hy; done)
      | (cases n <;> cases m <;> first | (exfalso; simp [okq] at hx; done) | (exfalso; simp [okq] at hy; done) | (simp only [okq] at hx hy; simp only [D.py, PyData.eqv, eqv]; exact eqvs_py _ _ hx hy) | (simp only [D.py, PyData.eqv, eqv]; done))
theorem eqvs_py : ∀ {n m : Nat} (x y : List D), okqs n x = true → okqs m y = true → PyData.eqvAll (pys x) (pys y) = eqvs x y
  | _, _, [], [], _, _ => by simp only [pys, PyData.eqvAll, eqvs]
  | _, _, [], _ :: _, _, _ => by simp only [pys, PyData.eqvAll, eqvs]
  | _, _, _ :: _, [], _, _ => by simp only [pys, PyData.eqvAll, eqvs]
  | n, m, x :: xs, y :: ys, hx, hy => by
    simp only [okqs, Bool.and_eq_true] at hx hy
    simp only [pys, PyData.eqvAll, eqvs]
    rw [eqv_py x y hx.1 hy.1, eqvs_py xs ys hx.2 hy.2]
end
mutual
theorem okq_lay : ∀ {n : Nat} (x : D), okq n x = true → x.py.canLay0 = true ∧ x.py.depth ≤ n
  | n, .non, _ => ⟨by simp only [D.py, PyData.canLay0], by simp only [D.py, PyData.depth]; exact Nat.zero_le _⟩
  | n, .bl _, _ => ⟨by simp only [D.py, PyData.canLay0], by simp only [D.py, PyData.depth]; exact Nat.zero_le _⟩
  | n, .int _, _ => ⟨by simp only [D.py, PyData.canLay0], by simp only [D.py, PyData.depth]; exact Nat.zero_le _⟩
  | n, .str s, h => ⟨by
      simp only [D.py, PyData.canLay0]
      have h2 : s.all (· < 1114112) = true := by simpa [okq] using h
      show Array.all s.toArray (fun c => decide (c < 0x110000)) = true
      simpa using h2, by simp only [D.py, PyData.depth]; exact Nat.zero_le _⟩
  | n + 1, .lst xs, h => ⟨by simp only [D.py, PyData.canLay0]; exact (okqs_lay xs (by simpa [okq] using h)).1, by simp only [D.py, PyData.depth]; exact Nat.succ_le_succ (okqs_lay xs (by simpa [okq] using h)).2⟩
  | n + 1, .klst xs, h => ⟨by simp only [D.py, PyData.canLay0]; exact (okqs_lay xs (by simpa [okq] using h)).1, by simp only [D.py, PyData.depth]; exact Nat.succ_le_succ (okqs_lay xs (by simpa [okq] using h)).2⟩
  | n + 1, .tup xs, h => ⟨by simp only [D.py, PyData.canLay0]; exact (okqs_lay xs (by simpa [okq] using h)).1, by simp only [D.py, PyData.depth]; exact Nat.succ_le_succ (okqs_lay xs (by simpa [okq] using h)).2⟩
  | 0, .lst xs, h => by simp [okq] at h
  | 0, .klst xs, h => by simp [okq] at h
  | 0, .tup xs, h => by simp [okq] at h
  | _, .ty _, h => by simp [okq] at h
  | _, .glo _, h => by simp [okq] at h
  | _, .ins _ _, h => by simp [okq] at h
  | _, .dct _, h => by simp [okq] at h
  | _, .cel _, h => by simp [okq] at h
theorem okqs_lay : ∀ {n : Nat} (x : List D), okqs n x = true → PyData.canLayAll0 (pys x) = true ∧ PyData.depthAll (pys x) ≤ n
  | n, [], _ => ⟨by simp only [pys, PyData.canLayAll0], by simp only [pys, PyData.depthAll]; exact Nat.zero_le _⟩
  | n, x :: xs, h => by
    simp only [okqs, Bool.and_eq_true] at h
    obtain ⟨h1, h2⟩ := okq_lay x h.1
    obtain ⟨h3, h4⟩ := okqs_lay xs h.2
    exact ⟨by simp only [pys, PyData.canLayAll0, h1, h3, Bool.and_self], by simp only [pys, PyData.depthAll]; exact Nat.max_le.mpr ⟨h2, h4⟩⟩
end
theorem okq_shaped {x : D} (h : okq 64 x = true) : SeqAt.shaped x.py = true := by
  obtain ⟨h1, h2⟩ := okq_lay x h
  unfold SeqAt.shaped
  rw [h1, decide_eq_true h2]; rfl
mutual
theorem Rep.dp {z : Z} {G H : Hp} (g : Same G H) : ∀ {n : Nat} {x : D} {v : V}, okq n x = true → Rep z G x v → Dp z.K H v x.py
  | _, .non, _, _, r => by cases r; exact .non
  | _, .bl _, _, _, r => by cases r; exact .bl _
  | _, .int _, _, _, r => by cases r; exact .int _
  | _, .str _, _, _, r => by cases r; exact .str _
  | n + 1, .lst xs, _, h, ⟨a, us, q, s, r⟩ => by subst q; simp only [D.py]; exact .lst (SqL.of (g _ _ s)) (Reps.dp g (by simpa [okq] using h) r)
  | n + 1, .klst xs, _, h, ⟨a, us, q, s, r⟩ => by subst q; simp only [D.py]; exact .lst (g.seq s) (Reps.dp g (by simpa [okq] using h) r)
  | n + 1, .tup xs, _, h, ⟨a, us, q, s, r⟩ => by subst q; simp only [D.py]; exact .tup (Same.tup g s) (Reps.dp g (by simpa [okq] using h) r)
  | 0, .lst _, _, h, _ => by simp [okq] at h
  | 0, .klst _, _, h, _ => by simp [okq] at h
  | 0, .tup _, _, h, _ => by simp [okq] at h
  | _, .ty _, _, h, _ => by simp [okq] at h
  | _, .glo _, _, h, _ => by simp [okq] at h
  | _, .ins _ _, _, h, _ => by simp [okq] at h
  | _, .dct _, _, h, _ => by simp [okq] at h
  | _, .cel _, _, h, _ => by simp [okq] at h
theorem Reps.dp {z : Z} {G H : Hp} (g : Same G H) : ∀ {n : Nat} {x : List D} {v : List V}, okqs n x = true → Reps z G x v → DpAll z.K H v (pys x)
  | _, [], _, _, r => by cases r; simp only [pys]; exact .nil
  | n, x :: xs, _, h, ⟨v, vs, q, r, r2⟩ => by
    subst q
    simp only [okqs, Bool.and_eq_true] at h
    simp only [pys]
    exact .cons (Rep.dp g h.1 r) (Reps.dp g h.2 r2)
end
mutual
theorem RepW.dp {z : Z} {G H : Hp} (g : Same G H) : ∀ {n : Nat} {w : W} {v : V} {as : List Addr}, okq n (fz w) = true → RepW z G H w v as → nosto w = true → Dp z.K H v (fz w).py
  | n, .d x, _, _, h, ⟨_, r⟩, _ => Rep.dp g h r
  | n + 1, .ol ws, _, _, h, ⟨a, us, as', q, _, s, r⟩, t => by subst q; simp only [fz, D.py]; exact .lst (SqL.of s) (RepWs.dp g (by simpa [okq, fz] using h) r t)
  | n + 1, .ot ws, _, _, h, ⟨a, us, as', q, _, s, r⟩, t => by subst q; simp only [fz, D.py]; exact .tup (SqT.of s) (RepWs.dp g (by simpa [okq, fz] using h) r t)
  | 0, .ol _, _, _, h, _, _ => by simp [okq, fz] at h
  | 0, .ot _, _, _, h, _, _ => by simp [okq, fz] at h
  | _, .oi _ _, _, _, h, _, _ => by simp [okq, fz] at h
  | _, .od _, _, _, h, _, _ => by simp [okq, fz] at h
  | _, .sto, _, _, _, _, t => by cases t
  | _, .exn, _, _, _, _, t => by cases t
  | _, .at_ _, _, _, _, _, t => by cases t
  | _, .hole, _, _, _, _, t => by cases t
theorem RepWs.dp {z : Z} {G H : Hp} (g : Same G H) : ∀ {n : Nat} {x : List W} {v : List V} {as : List Addr}, okqs n (fzs x) = true → RepWs z G H x v as → nostos x = true → DpAll z.K H v (pys (fzs x))
  | _, [], _, _, _, r, _ => by cases r.1; simp only [fzs, pys]; exact .nil
  | n, x :: xs, _, _, h, ⟨v, vs, _, _, q, _, r, r2⟩, t => by
    subst q
    simp only [fzs, okqs, Bool.and_eq_true] at h
    simp only [fzs, pys]
    exact .cons (RepW.dp g h.1 r (band t).1) (RepWs.dp g h.2 r2 (band t).2)
end
end
end DL

/-! DL7: comparisons, truth, and, or, not, displays, subscripts, slices. -/
namespace DL
open PySem PySem.Spec
open PyProof.Rows L2
/-- what an expression is not: a display of a set, a star, a slice -/
structure Pl (e : Expr) : Prop where
  star : ∀ es env, starEach (e :: es) env = (false, eval e env) :: starEach es env
  mark : ∀ op, behindInMarks op e = false
  fold : ∀ env x, foldedSetIterable e env x = pure x
  ix : PlainIx e
/-- its test is its value's truth -/
def Tr (e : Expr) : Prop := ∀ env whole, isTrue e env whole = (do let v ← whole; standAt e.pos; holding [v] (truthy v))
section
variable {X : Cx} {e a b c : Expr} {ta tb tc : DTE} {pos : Pos}
theorem rdw_dp {z : Z} {H : Hp} {w : W} {v : V} (h : Rd1 z H w v) (n : nosto w = true) (q : okq 64 (fz w) = true) : Dp z.K H v (fz w).py := let ⟨_, _, g, r⟩ := h; RepW.dp g q r n
def kEq (neg : Bool) (x y : D) (k : Bool → Prop) : Prop := match x, y with
  | .str s, .str t => k (neg != (s == t))
  | x, y => okq 64 x = true ∧ okq 64 y = true ∧ k (neg != eqv x y)
def sEq (neg : Bool) : DOp := fun wa wb env k => match peek env wa, peek env wb with
  | some a, some b => nosto a = true ∧ nosto b = true ∧ kEq neg (fz a) (fz b) fun c => k (.d (.bl c)) env
  | _, _ => False
def rEqA (K : PySem.W.Frag) : R2 := fun x y H Q => rEq x y H Q ∨ rEqD K x y H Q
def rNeA (K : PySem.W.Frag) : R2 := fun x y H Q => rNe x y H Q ∨ rNeD K x y H Q
theorem op_eqA (hu : X.A.units + 64 < cLine) : OpR X (compareOp .Eq) (rEqA X.K) := OpR.or op_eq (op_eqD hu)
theorem op_neA (hu : X.A.units + 64 < cLine) : OpR X (compareOp .NotEq) (rNeA X.K) := OpR.or op_ne (op_neD hu)
theorem sEq_elim {neg : Bool} {wa wb : W} {env : Env} {k : DK} (h : sEq neg wa wb env k) : ∃ a b, peek env wa = some a ∧ peek env wb = some b ∧ nosto a = true ∧ nosto b = true ∧
    ((∃ s t, fz a = .str s ∧ fz b = .str t ∧ k (.d (.bl (neg != (s == t)))) env) ∨ (okq 64 (fz a) = true ∧ okq 64 (fz b) = true ∧ k (.d (.bl (neg != eqv (fz a) (fz b)))) env)) := by
  unfold sEq at h
  split at h
  · rename_i a b h1 h2
    obtain ⟨n1, n2, h3⟩ := h
    refine ⟨a, b, h1, h2, n1, n2, ?_⟩
    unfold kEq at h3
    split at h3
    · rename_i s t e1 e2
      exact .inl ⟨s, t, e1, e2, h3⟩
    · exact .inr h3
  · exact h.elim
theorem fz_str {a : W} {s : List Nat} (h : fz a = .str s) : a = .d (.str s) := by
  cases a <;> first | (simp only [fz] at h; rw [h]) | (simp only [fz] at h; cases h)
theorem opd_eq : OpD X (rEqA X.K) (sEq false) := fun z stk vs env σ H Q k wa wb va vb ok r h q => by
  obtain ⟨a, b, h1, h2, n1, n2, h3⟩ := sEq_elim h
  have r2 := r.look h2
  have r1 := r.look2 h1
  rcases h3 with ⟨s, t, e1, e2, hk⟩ | ⟨q1, q2, hk⟩
  · have e1 := fz_str e1
    have e2 := fz_str e2
    subst e1 e2
    have e1 := rd_str r1
    have e2 := rd_str r2
    subst e1 e2
    refine .inl ⟨rfl, ?_⟩
    rw [dec_str, str_beq]
    rw [Bool.false_bne] at hk
    exact q _ _ _ _ r.pop.pop.pushBl hk
  · refine .inr ⟨_, _, ok.k ▸ rdw_dp r1 n1 q1, ok.k ▸ rdw_dp r2 n2 q2, okq_shaped q1, okq_shaped q2, ?_⟩
    rw [eqv_py _ _ q1 q2]
    rw [Bool.false_bne] at hk
    exact q _ _ _ _ r.pop.pop.pushBl hk
theorem opd_ne : OpD X (rNeA X.K) (sEq true) := fun z stk vs env σ H Q k wa wb va vb ok r h q => by
  obtain ⟨a, b, h1, h2, n1, n2, h3⟩ := sEq_elim h
  have r2 := r.look h2
  have r1 := r.look2 h1
  rcases h3 with ⟨s, t, e1, e2, hk⟩ | ⟨q1, q2, hk⟩
  · have e1 := fz_str e1
    have e2 := fz_str e2
    subst e1 e2
    have e1 := rd_str r1
    have e2 := rd_str r2
    subst e1 e2
    refine .inl ⟨rfl, ?_⟩
    rw [dec_str, str_beq]
    rw [Bool.true_bne] at hk
    exact q _ _ _ _ r.pop.pop.pushBl hk
  · refine .inr ⟨_, _, ok.k ▸ rdw_dp r1 n1 q1, ok.k ▸ rdw_dp r2 n2 q2, okq_shaped q1, okq_shaped q2, ?_⟩
    rw [eqv_py _ _ q1 q2]
    rw [Bool.true_bne] at hk
    exact q _ _ _ _ r.pop.pop.pushBl hk
/-! order of ints (and texts) -/
def sOrd (p : Int → Int → Bool) : DOp := fun wa wb env k => match peek env wa, peek env wb with
  | some (.d (.int i)), some (.d (.int j)) => k (.d (.bl (p i j))) env
  | _, _ => False
theorem opd_ord {p : Int → Int → Bool} : OpD X (rI0 fun i j => .bl (p i j)) (sOrd p) := fun z stk vs env σ H Q k wa wb va vb ok r h q => by
  unfold sOrd at h
  split at h
  · rename_i i j h1 h2
    have e2 := rd_int (r.look h2)
    have e1 := rd_int (r.look2 h1)
    subst e1 e2
    exact ⟨i, j, rfl, rfl, q _ _ _ _ r.pop.pop.pushBl h⟩
  · exact h.elim
/-! in -/
def flatD : D → Bool
  | .non => true
  | .bl _ => true
  | .int _ => true
  | .str _ => true
  | _ => false
def inD (x : D) (xs : List D) : Bool := xs.any fun y => eqv y x
def sIn (neg : Bool) : DOp := fun wa wb env k => match peek env wb with
  | some (.d (.str t)) => match peek env wa with
    | some (.d (.str [c])) => k (.d (.bl (neg != decide (c ∈ t)))) env
    | _ => False
  | some b => match peek env wa, flat b with
    | some (.d x), some (_, xs) => flatD x = true ∧ xs.all flatD = true ∧ k (.d (.bl (neg != inD x xs))) env
    | _, _ => False
  | _ => False
theorem flat_v {z : Z} {G : Hp} {x : D} {v : V} (r : Rep z G x v) (h : flatD x = true) : flatV v = true := by
  cases x with
  | non => cases r; rfl
  | bl _ => cases r; rfl
  | int _ => cases r; rfl
  | str _ => cases r; rfl
  | _ => cases h
theorem flat_vs {z : Z} {G : Hp} : ∀ {xs : List D} {vs : List V}, Reps z G xs vs → xs.all flatD = true → vs.all flatV = true
  | [], _, q, _ => by cases q; rfl
  | _ :: _, _, ⟨v, vs, q, r, r2⟩, h => by
    subst q
    obtain ⟨h1, h2⟩ := band h
    show (flatV v && vs.all flatV) = true
    rw [flat_v r h1, flat_vs r2 h2]; rfl
theorem eqv_v {z : Z} {G G' : Hp} {x y : D} {u v : V} (rx : Rep z G x u) (ry : Rep z G' y v) (hx : flatD x = true) (hy : flatD y = true) : eqV u v = eqv x y := by
  cases x <;> first | cases hx | skip
  all_goals (cases rx; cases y <;> first | (cases ry; rfl) | (cases ry; exact str_beq _ _) | (exfalso; exact Bool.noConfusion hy))
theorem in_v {z : Z} {G G' : Hp} {x : D} {u : V} (rx : Rep z G x u) (hx : flatD x = true) : ∀ {xs : List D} {vs : List V}, Reps z G' xs vs → xs.all flatD = true → inV u vs = inD x xs
  | [], _, q, _ => by cases q; rfl
  | _ :: _, _, ⟨v, vs, q, r, r2⟩, h => by
    subst q
    obtain ⟨h1, h2⟩ := band h
    have e := in_v rx hx r2 h2
    show (eqV v u || inV u vs) = _
    rw [e, eqv_v r rx h1 hx]; rfl
def rInA (K : PySem.W.Frag) (neg : Bool) : R2 := fun x y H Q => (∃ (c : Nat) (z : Str), x = .str ⟨#[c]⟩ ∧ y = .str z ∧ Q (.bl (neg != decide (c ∈ z.cps.toList))) H) ∨ rIn K neg x y H Q
theorem op_inA : OpR X (compareOp .In) (rInA X.K false) := OpR.or (fun pins s σ H x y v u Q I rx ry ⟨c, z, e1, e2, q⟩ => op_in_sign pins s σ H x y v u Q I rx ry ⟨c, z, e1, e2, by rw [Bool.false_bne] at q; exact q⟩) op_in_seq
theorem op_niA : OpR X (compareOp .NotIn) (rInA X.K true) := OpR.or (fun pins s σ H x y v u Q I rx ry ⟨c, z, e1, e2, q⟩ => op_notIn_sign pins s σ H x y v u Q I rx ry ⟨c, z, e1, e2, by rw [Bool.true_bne] at q; exact q⟩) op_notIn_seq
theorem sqk_or {K : PySem.W.Frag} {H : Hp} {a : Addr} {us : List V} {k : SeqK} (h : SqK K H a us k) : SqL K H a us ∨ SqT K H a us := by
  cases k with
  | l => exact .inl (SqL.of h)
  | r => exact .inl h
  | t => exact .inr h
theorem opd_in {neg : Bool} : OpD X (rInA X.K neg) (sIn neg) := fun z stk vs env σ H Q k wa wb va vb ok r h q => by
  unfold sIn at h
  split at h
  · rename_i t h2
    split at h
    · rename_i c h1
      have e2 := rd_str (r.look h2)
      have e1 := rd_str (r.look2 h1)
      subst e1 e2
      exact .inl ⟨c, _, rfl, rfl, q _ _ _ _ r.pop.pop.pushBl h⟩
    · exact h.elim
  · rename_i b _ h2
    split at h
    · rename_i x kd xs h1 h3
      obtain ⟨f1, f2, hk⟩ := h
      obtain ⟨G, as, g, rb⟩ := r.look h2
      obtain ⟨a, us, ea, sa, ra⟩ := rb.flat g h3
      obtain ⟨G', _, _, _, rx⟩ := r.look2 h1
      subst ea
      refine .inr ⟨a, us, rfl, ok.k ▸ sqk_or sa, flat_v rx f1, flat_vs ra f2, ?_⟩
      rw [in_v rx f1 ra f2]
      cases neg
      · rw [Bool.false_bne] at hk; exact q _ _ _ _ r.pop.pop.pushBl hk
      · rw [Bool.true_bne] at hk; exact q _ _ _ _ r.pop.pop.pushBl hk
    · exact h.elim
  · exact h.elim
/-! is None -/
def nonW : W → Bool
  | .d .non => true
  | _ => false
def sIsN (neg : Bool) : DOp := fun wa wb env k => match peek env wb with
  | some (.d .non) => match peek env wa with
    | some a => k (.d (.bl (neg != nonW a))) env
    | none => False
  | _ => False
theorem non_v {z : Z} {H : Hp} {w : W} {v : V} (h : Rd1 z H w v) : decide (v = .non) = nonW w := by
  obtain ⟨G, as, _, r⟩ := h
  have ne : ∀ {a : Addr}, decide (V.ref a = .non) = false := fun {a} => decide_eq_false (fun q => nomatch q)
  cases w with
  | d x =>
    obtain ⟨_, r⟩ := r
    cases x with
    | non => cases r; rfl
    | bl _ => cases r; rfl
    | int _ => cases r; rfl
    | str _ => cases r; rfl
    | ty _ => cases r; rfl
    | glo _ => obtain ⟨a, _, q⟩ := r; subst q; exact ne
    | lst _ => obtain ⟨a, _, q, _⟩ := r; subst q; exact ne
    | klst _ => obtain ⟨a, _, q, _⟩ := r; subst q; exact ne
    | tup _ => obtain ⟨a, _, q, _⟩ := r; subst q; exact ne
    | cel _ => obtain ⟨_, a, _, q, _⟩ := r; subst q; exact ne
    | ins _ _ => obtain ⟨a, _, _, _, q, _⟩ := r; subst q; exact ne
    | dct _ => obtain ⟨a, _, q, _⟩ := r; subst q; exact ne
  | ol _ => obtain ⟨a, _, _, q, _⟩ := r; subst q; exact ne
  | ot _ => obtain ⟨a, _, _, q, _⟩ := r; subst q; exact ne
  | oi _ _ => obtain ⟨a, _, _, _, _, q, _⟩ := r; subst q; exact ne
  | od _ => obtain ⟨a, _, _, q, _⟩ := r; subst q; exact ne
  | sto => obtain ⟨_, s, _, q⟩ := r; subst q; exact ne
  | exn => obtain ⟨_, i, _, q⟩ := r; subst q; exact ne
  | oL _ => obtain ⟨a, _, _, _, q, _⟩ := r; subst q; exact ne
  | at_ _ => exact r.elim
  | hole => exact r.elim
def rIsN (neg : Bool) : R2 := fun x y H Q => y = .non ∧ Q (.bl (neg != decide (x = .non))) H
theorem op_isNA : OpR X (compareOp .Is) (rIsN false) := fun pins s σ H x y v u Q I rx ry ⟨e, q⟩ => op_isN pins s σ H x y v u Q I rx ry ⟨e, by rw [Bool.false_bne] at q; exact q⟩
theorem op_notNA : OpR X (compareOp .IsNot) (rIsN true) := fun pins s σ H x y v u Q I rx ry ⟨e, q⟩ => op_notN pins s σ H x y v u Q I rx ry ⟨e, by rw [Bool.true_bne] at q; exact q⟩
theorem opd_isN {neg : Bool} : OpD X (rIsN neg) (sIsN neg) := fun z stk vs env σ H Q k wa wb va vb ok r h q => by
  unfold sIsN at h
  split at h
  · rename_i h2
    have e2 := rd_non (r.look h2)
    subst e2
    split at h
    · rename_i a h1
      refine ⟨rfl, ?_⟩
      rw [non_v (r.look2 h1)]
      exact q _ _ _ _ r.pop.pop.pushBl h
    · exact h.elim
  · exact h.elim
/-! a comparison by its operator -/
def sCmp : CmpOp → DOp
  | .Eq => sEq false
  | .NotEq => sEq true
  | .Lt => sOrd fun i j => decide (i < j)
  | .LtE => sOrd fun i j => decide (i ≤ j)
  | .Gt => sOrd fun i j => decide (j < i)
  | .GtE => sOrd fun i j => decide (j ≤ i)
  | .Is => sIsN false
  | .IsNot => sIsN true
  | .In => sIn false
  | .NotIn => sIn true
def rCmp (K : PySem.W.Frag) : CmpOp → R2
  | .Eq => rEqA K
  | .NotEq => rNeA K
  | .Lt => rI0 fun i j => .bl (decide (i < j))
  | .LtE => rI0 fun i j => .bl (decide (i ≤ j))
  | .Gt => rI0 fun i j => .bl (decide (j < i))
  | .GtE => rI0 fun i j => .bl (decide (j ≤ i))
  | .Is => rIsN false
  | .IsNot => rIsN true
  | .In => rInA K false
  | .NotIn => rInA K true
theorem op_cmp (hu : X.A.units + 64 < cLine) : ∀ op, OpR X (compareOp op) (rCmp X.K op)
  | .Eq => op_eqA hu
  | .NotEq => op_neA hu
  | .Lt => op_lt
  | .LtE => op_le
  | .Gt => op_gt
  | .GtE => op_ge
  | .Is => op_isNA
  | .IsNot => op_notNA
  | .In => op_inA
  | .NotIn => op_niA
theorem opd_cmp : ∀ op, OpD X (rCmp X.K op) (sCmp op)
  | .Eq => opd_eq
  | .NotEq => opd_ne
  | .Lt => opd_ord
  | .LtE => opd_ord
  | .Gt => opd_ord
  | .GtE => opd_ord
  | .Is => opd_isN
  | .IsNot => opd_isN
  | .In => opd_in
  | .NotIn => opd_in
theorem de_cmp (hu : X.A.units + 64 < cLine) (op : CmpOp) (hb' : behindInMarks op b = false) (ha : DE X a ta) (hb : DE X b tb) : DE X (.Compare a [op] [b] pos) (dOp (sCmp op) ta tb) := de_op (fun h h' => pe_cmpR (op_cmp hu op) h h' hb') (opd_cmp op) ha hb

/-! truth -/
def truD : W → Option Bool
  | .d .non => some false
  | .d (.bl b) => some b
  | .d (.int i) => some (i != 0)
  | .d (.str s) => some (s.length != 0)
  | .d (.lst xs) => some (!xs.isEmpty)
  | .d (.klst xs) => some (!xs.isEmpty)
  | .d (.tup xs) => some (!xs.isEmpty)
  | .d (.dct xs) => some (!xs.isEmpty)
  | .ol xs => some (!xs.isEmpty)
  | .ot xs => some (!xs.isEmpty)
  | .od xs => some (!xs.isEmpty)
  | _ => none
def lenD : W → Nat
  | .d (.str s) => s.length
  | _ => 0
def kTru (w : W) (env : Env) (k : Bool → Env → Prop) : Prop := match peek env w with
  | some a => match truD a with
    | some b => lenD a ≤ sizeLine ∧ k b env
    | none => False
  | none => False
theorem kTru_elim {w : W} {env : Env} {k : Bool → Env → Prop} (h : kTru w env k) : ∃ a b, peek env w = some a ∧ truD a = some b ∧ lenD a ≤ sizeLine ∧ k b env := by
  unfold kTru at h
  split at h
  · rename_i a h1
    split at h
    · rename_i b h2
      exact ⟨a, b, h1, h2, h⟩
    · exact h.elim
  · exact h.elim
theorem reps_emp {z : Z} {G : Hp} {xs : List D} {vs : List V} (r : Reps z G xs vs) : vs.isEmpty = xs.isEmpty := by
  cases xs with
  | nil => cases r; rfl
  | cons _ _ => obtain ⟨v, vs', q, _⟩ := r; subst q; rfl
theorem repws_emp {z : Z} {G H : Hp} {xs : List W} {vs : List V} {as : List Addr} (r : RepWs z G H xs vs as) : vs.isEmpty = xs.isEmpty := by
  cases xs with
  | nil => cases r.1; rfl
  | cons _ _ => obtain ⟨v, vs', _, _, q, _⟩ := r; subst q; rfl
theorem repk_emp {z : Z} {G : Hp} {xs : List (Key × D)} {vs : List (Key × V)} (r : RepK z G xs vs) : vs.isEmpty = xs.isEmpty := by
  cases xs with
  | nil => cases r; rfl
  | cons p _ => obtain ⟨v, vs', q, _⟩ := (show ∃ v vs', vs = (p.1, v) :: vs' ∧ _ from r); subst q; rfl
theorem repwk_emp {z : Z} {G H : Hp} {xs : List (Key × W)} {vs : List (Key × V)} {as : List Addr} (r : RepWk z G H xs vs as) : vs.isEmpty = xs.isEmpty := by
  cases xs with
  | nil => cases r.1; rfl
  | cons p _ => obtain ⟨v, vs', _, _, q, _⟩ := (show ∃ v vs' a1 a2, vs = (p.1, v) :: vs' ∧ _ from r); subst q; rfl
theorem tru_v {z : Z} {H : Hp} {w : W} {v : V} {b : Bool} (h : Rd1 z H w v) (t : truD w = some b) (l : lenD w ≤ sizeLine) : TruV z.K v H b := by
  obtain ⟨G, as, g, r⟩ := h
  cases w with
  | d x =>
    obtain ⟨_, r⟩ := r
    cases x with
    | non => cases r; cases t; exact rfl
    | bl _ => cases r; cases t; exact rfl
    | int _ => cases r; cases t; exact rfl
    | str s =>
      cases r; cases t
      refine ⟨by rw [str_len]; exact l, ?_⟩
      rw [str_len]
      cases s with
      | nil => rfl
      | cons x s =>
        have e1 : ((x :: s).length != 0) = true := by simp
        have e2 : (((x :: s).length : Int) != 0) = true := by simp; omega
        rw [e1, e2]
    | lst _ => cases t; obtain ⟨a, us, q, s, r⟩ := r; subst q; exact .inl ⟨us, SqL.of (g _ _ s), by rw [reps_emp r]⟩
    | klst _ => cases t; obtain ⟨a, us, q, s, r⟩ := r; subst q; exact .inl ⟨us, g.seq s, by rw [reps_emp r]⟩
    | tup _ => cases t; obtain ⟨a, us, q, s, r⟩ := r; subst q; exact .inr (.inl ⟨us, Same.tup g s, by rw [reps_emp r]⟩)
    | dct _ => cases t; obtain ⟨a, us, q, s, r⟩ := r; subst q; exact .inr (.inr ⟨us, g _ _ s, by rw [repk_emp r]⟩)
    | _ => cases t
  | ol _ => cases t; obtain ⟨a, us, _, q, _, s, r⟩ := r; subst q; exact .inl ⟨us, SqL.of s, by rw [repws_emp r]⟩
  | ot _ => cases t; obtain ⟨a, us, _, q, _, s, r⟩ := r; subst q; exact .inr (.inl ⟨us, SqT.of s, by rw [repws_emp r]⟩)
  | od _ => cases t; obtain ⟨a, us, _, q, _, s, r⟩ := r; subst q; exact .inr (.inr ⟨us, s, by rw [repwk_emp r]⟩)
  | _ => cases t
/-- a value's truth -/
def dTru (ta : DTE) : DTT := fun env k kx => ta env (fun w e1 => kTru w e1 k) kx
theorem dt_tru (he : Tr a) (ha : DE X a ta) : DT X a (dTru ta) := fun Wx tk => by
  obtain ⟨te, p, h⟩ := ha Wx tk
  refine ⟨_, pt_truth p (he _), fun z stk vs env σ H Q k kx ok r t q qx => ?_⟩
  refine h z stk vs env σ H _ _ kx ok r t (fun w env' v H' r1 k1 => ?_) qx
  obtain ⟨a, b, h1, h2, h3, hk⟩ := kTru_elim k1
  exact ⟨b, ok.k ▸ tru_v (r1.look h1) h2 h3, q _ _ _ r1.pop hk⟩
def kBl (k : Bool → Env → Prop) : DK := fun w env => match w with
  | .d (.bl c) => k c env
  | _ => False
theorem kBl_elim {k : Bool → Env → Prop} {w : W} {env : Env} (h : kBl k w env) : ∃ c, w = .d (.bl c) ∧ k c env := by
  unfold kBl at h
  split at h
  · exact ⟨_, rfl, h⟩
  · exact h.elim
/-- a value that is a truth -/
def dBl (ta : DTE) : DTT := fun env k kx => ta env (kBl k) kx
theorem dt_cmp (hu : X.A.units + 64 < cLine) (op : CmpOp) (hb' : behindInMarks op b = false) (ha : DE X a ta) (hb : DE X b tb) : DT X (.Compare a [op] [b] pos) (dBl (dOp (sCmp op) ta tb)) := fun Wx tk => by
  obtain ⟨te1, p1, h1⟩ := ha Wx tk
  obtain ⟨te2, p2, h2⟩ := hb Wx tk
  refine ⟨_, pt_cmpR (op_cmp hu op) p1 p2 hb', fun z stk vs env σ H Q k kx ok rl t q qx => ?_⟩
  refine h1 z stk vs env σ H _ _ kx ok rl t (fun w env' v H' r1 k1 => ?_) qx
  refine h2 z _ _ env' σ H' _ _ kx ok r1 k1 (fun w2 env2 v2 H2 r2 k2 => ?_) qx
  refine opd_cmp op z stk vs env2 σ H2 _ _ _ _ _ _ ok r2 k2 fun w env' v H' r3 k3 => ?_
  obtain ⟨c, rfl, hk⟩ := kBl_elim k3
  exact ⟨c, rd_bl (r3.look rfl), q _ _ _ r3.pop hk⟩
/-! a < b < c -/
def dChn (op op' : CmpOp) (ta tb tc : DTE) : DTE := fun env k kx => ta env (fun wa e1 => tb e1 (fun wb e2 => match peek e2 wb with
  | some (.d (.int j)) => sCmp op wa (.d (.int j)) e2 fun w e3 => kBl (fun c e4 => if c = true then tc e4 (fun wc e5 => sCmp op' (.d (.int j)) wc e5 k) kx else k (.d (.bl false)) e4) w e3
  | _ => False) kx) kx
theorem Rel.re {z : Z} {stk : List W} {vs : List V} {env : Env} {σ : St} {H : Hp} {w : W} {v : V} {j : Int} (r : Rel z (w :: stk) (v :: vs) env σ H) (h : peek env w = some (.d (.int j))) : Rel z (.d (.int j) :: stk) (v :: vs) env σ H := by
  have e := rd_int (r.look h)
  subst e
  exact r.pop.pushInt
theorem de_chn (hu : X.A.units + 64 < cLine) (op op' : CmpOp) (hm : lastMarks [op, op'] [b, c] = false) (ha : DE X a ta) (hb : DE X b tb) (hc : DE X c tc) : DE X (.Compare a [op, op'] [b, c] pos) (dChn op op' ta tb tc) := fun Wx tk => by
  obtain ⟨te1, p1, h1⟩ := ha Wx tk
  obtain ⟨te2, p2, h2⟩ := hb Wx tk
  obtain ⟨te3, p3, h3⟩ := hc Wx tk
  refine ⟨_, pe_chain (op_cmp hu op) (op_cmp hu op') p1 p2 p3 hm, fun z stk vs env σ H Q k kx ok rl t q qx => ?_⟩
  refine h1 z stk vs env σ H _ _ kx ok rl t (fun w env' v H' r1 k1 => ?_) qx
  refine h2 z _ _ env' σ H' _ _ kx ok r1 k1 (fun w2 env2 v2 H2 r2 k2 => ?_) qx
  split at k2
  · rename_i j hj
    have r2' := r2.re hj
    -- the middle is kept below
    have ej := rd_int (r2.look hj)
    subst ej
    refine opd_cmp op z (.d (.int j) :: stk) (.int j :: vs) env2 σ H2 _ _ _ _ _ _ ok (Rel.down (s1 := [.d (.int j), w]) (u1 := [.int j, v]) (r2'.pushInt (i := j)) rfl) k2 fun w3 env3 v3 H3 r3 k3 => ?_
    obtain ⟨cc, rfl, hk⟩ := kBl_elim k3
    refine ⟨cc, rd_bl (r3.look rfl), ?_⟩
    cases cc with
    | false =>
      rw [if_neg (by decide)]
      rw [if_neg (by decide)] at hk
      exact q _ _ _ _ r3.pop.pop.pushBl hk
    | true =>
      rw [if_pos rfl]
      rw [if_pos rfl] at hk
      refine h3 z _ _ env3 σ H3 _ _ kx ok r3.pop hk (fun w5 env5 v5 H5 r5 k5 => ?_) qx
      exact opd_cmp op' z stk vs env5 σ H5 _ _ _ _ _ _ ok r5 k5 q
  · exact k2.elim
theorem dt_chn (hu : X.A.units + 64 < cLine) (op op' : CmpOp) (hm : lastMarks [op, op'] [b, c] = false) (ha : DE X a ta) (hb : DE X b tb) (hc : DE X c tc) : DT X (.Compare a [op, op'] [b, c] pos) (dBl (dChn op op' ta tb tc)) := fun Wx tk => by
  obtain ⟨te1, p1, h1⟩ := ha Wx tk
  obtain ⟨te2, p2, h2⟩ := hb Wx tk
  obtain ⟨te3, p3, h3⟩ := hc Wx tk
  refine ⟨_, pt_chain (op_cmp hu op) (op_cmp hu op') p1 p2 p3 hm, fun z stk vs env σ H Q k kx ok rl t q qx => ?_⟩
  refine h1 z stk vs env σ H _ _ kx ok rl t (fun w env' v H' r1 k1 => ?_) qx
  refine h2 z _ _ env' σ H' _ _ kx ok r1 k1 (fun w2 env2 v2 H2 r2 k2 => ?_) qx
  split at k2
  · rename_i j hj
    have r2' := r2.re hj
    have ej := rd_int (r2.look hj)
    subst ej
    refine opd_cmp op z (.d (.int j) :: stk) (.int j :: vs) env2 σ H2 _ _ _ _ _ _ ok (Rel.down (s1 := [.d (.int j), w]) (u1 := [.int j, v]) (r2'.pushInt (i := j)) rfl) k2 fun w3 env3 v3 H3 r3 k3 => ?_
    obtain ⟨cc, rfl, hk⟩ := kBl_elim k3
    refine ⟨cc, rd_bl (r3.look rfl), ?_⟩
    cases cc with
    | false =>
      rw [if_neg (by decide)]
      rw [if_neg (by decide)] at hk
      exact ⟨false, rfl, q _ _ _ r3.pop.pop hk⟩
    | true =>
      rw [if_pos rfl]
      rw [if_pos rfl] at hk
      refine h3 z _ _ env3 σ H3 _ _ kx ok r3.pop hk (fun w5 env5 v5 H5 r5 k5 => ?_) qx
      refine opd_cmp op' z stk vs env5 σ H5 _ _ _ _ _ _ ok r5 k5 fun w6 env6 v6 H6 r6 k6 => ?_
      obtain ⟨c6, rfl, hk6⟩ := kBl_elim k6
      exact ⟨c6, rd_bl (r6.look rfl), q _ _ _ r6.pop hk6⟩
  · exact k2.elim
/-! not, and, or as tests -/
variable {sa sb sc : DTT} {rest : List Expr}
def dNotT (sa : DTT) : DTT := fun env k kx => sa env (fun c e1 => k (!c) e1) kx
theorem dt_not (ha : DT X a sa) : DT X (.UnaryOp .Not a pos) (dNotT sa) := fun Wx tk => by
  obtain ⟨te, p, h⟩ := ha Wx tk
  exact ⟨_, pt_not p, fun z stk vs env σ H Q k kx ok r t q qx => h z stk vs env σ H _ _ kx ok r t (fun c env' H' r1 k1 => q _ _ _ r1 k1) qx⟩
def dAndT (sa sb : DTT) : DTT := fun env k kx => sa env (fun c e1 => if c = true then sb e1 k kx else k false e1) kx
def dOrT (sa sb : DTT) : DTT := fun env k kx => sa env (fun c e1 => if c = true then k true e1 else sb e1 k kx) kx
theorem DW.dt (h : DW X a sa) : DT X a sa := fun Wx tk => let ⟨_, p, q⟩ := h Wx tk; ⟨_, p.pt, q⟩
theorem dw_and1 (ha : DT X a sa) : DW X (.BoolOp .And [a] pos) sa := fun Wx tk => let ⟨_, p, q⟩ := ha Wx tk; ⟨_, pw_and1 p, q⟩
theorem dw_or1 (ha : DT X a sa) : DW X (.BoolOp .Or [a] pos) sa := fun Wx tk => let ⟨_, p, q⟩ := ha Wx tk; ⟨_, pw_or1 p, q⟩
theorem dw_and (ha : DT X a sa) (hb : DW X (.BoolOp .And (b :: rest) pos) sb) : DW X (.BoolOp .And (a :: b :: rest) pos) (dAndT sa sb) := fun Wx tk => by
  obtain ⟨te1, p1, h1⟩ := ha Wx tk
  obtain ⟨te2, p2, h2⟩ := hb Wx tk
  refine ⟨_, pw_and p1 p2, fun z stk vs env σ H Q k kx ok r t q qx => h1 z stk vs env σ H _ _ kx ok r t (fun c env' H' r1 k1 => ?_) qx⟩
  cases c with
  | true => exact h2 z stk vs env' σ H' Q k kx ok r1 k1 q qx
  | false => exact q _ _ _ r1 k1
theorem dw_or (ha : DT X a sa) (hb : DW X (.BoolOp .Or (b :: rest) pos) sb) : DW X (.BoolOp .Or (a :: b :: rest) pos) (dOrT sa sb) := fun Wx tk => by
  obtain ⟨te1, p1, h1⟩ := ha Wx tk
  obtain ⟨te2, p2, h2⟩ := hb Wx tk
  refine ⟨_, pw_or p1 p2, fun z stk vs env σ H Q k kx ok r t q qx => h1 z stk vs env σ H _ _ kx ok r t (fun c env' H' r1 k1 => ?_) qx⟩
  cases c with
  | true => exact q _ _ _ r1 k1
  | false => exact h2 z stk vs env' σ H' Q k kx ok r1 k1 q qx
/-! .. as values -/
def dNot (ta : DTE) : DTE := fun env k kx => ta env (fun w e1 => kTru w e1 fun c e2 => k (.d (.bl (!c))) e2) kx
theorem de_not (ha : DE X a ta) : DE X (.UnaryOp .Not a pos) (dNot ta) := fun Wx tk => by
  obtain ⟨te, p, h⟩ := ha Wx tk
  refine ⟨_, pe_notT p, fun z stk vs env σ H Q k kx ok r t q qx => h z stk vs env σ H _ _ kx ok r t (fun w env' v H' r1 k1 => ?_) qx⟩
  obtain ⟨a, b, h1, h2, h3, hk⟩ := kTru_elim k1
  exact ⟨b, ok.k ▸ tru_v (r1.look h1) h2 h3, q _ _ _ _ r1.pop.pushBl hk⟩
def dAnd (ta tb : DTE) : DTE := fun env k kx => ta env (fun w e1 => kTru w e1 fun c e2 => if c = true then tb e2 k kx else k w e2) kx
def dOr (ta tb : DTE) : DTE := fun env k kx => ta env (fun w e1 => kTru w e1 fun c e2 => if c = true then k w e2 else tb e2 k kx) kx
theorem de_one {op} (ha : DE X a ta) : DE X (.BoolOp op [a] pos) ta := fun Wx tk => let ⟨_, p, q⟩ := ha Wx tk; ⟨_, pe_one p, q⟩
theorem de_and (ha : DE X a ta) (hb : DE X (.BoolOp .And (b :: rest) pos) tb) : DE X (.BoolOp .And (a :: b :: rest) pos) (dAnd ta tb) := fun Wx tk => by
  obtain ⟨te1, p1, h1⟩ := ha Wx tk
  obtain ⟨te2, p2, h2⟩ := hb Wx tk
  refine ⟨_, pe_andT p1 p2, fun z stk vs env σ H Q k kx ok r t q qx => h1 z stk vs env σ H _ _ kx ok r t (fun w env' v H' r1 k1 => ?_) qx⟩
  obtain ⟨a, b, e1, e2, e3, hk⟩ := kTru_elim k1
  refine ⟨b, ok.k ▸ tru_v (r1.look e1) e2 e3, ?_⟩
  cases b with
  | true => exact h2 z stk vs env' σ H' Q k kx ok r1.pop hk q qx
  | false => exact q _ _ _ _ r1 hk
theorem de_or (ha : DE X a ta) (hb : DE X (.BoolOp .Or (b :: rest) pos) tb) : DE X (.BoolOp .Or (a :: b :: rest) pos) (dOr ta tb) := fun Wx tk => by
  obtain ⟨te1, p1, h1⟩ := ha Wx tk
  obtain ⟨te2, p2, h2⟩ := hb Wx tk
  refine ⟨_, pe_orT p1 p2, fun z stk vs env σ H Q k kx ok r t q qx => h1 z stk vs env σ H _ _ kx ok r t (fun w env' v H' r1 k1 => ?_) qx⟩
  obtain ⟨a, b, e1, e2, e3, hk⟩ := kTru_elim k1
  refine ⟨b, ok.k ▸ tru_v (r1.look e1) e2 e3, ?_⟩
  cases b with
  | true => exact q _ _ _ _ r1 hk
  | false => exact h2 z stk vs env' σ H' Q k kx ok r1.pop hk q qx
def dIte (sa : DTT) (ta tb : DTE) : DTE := fun env k kx => sa env (fun c e1 => if c = true then ta e1 k kx else tb e1 k kx) kx
theorem de_ite (hc : DT X c sa) (ha : DE X a ta) (hb : DE X b tb) : DE X (.IfExp c a b pos) (dIte sa ta tb) := fun Wx tk => by
  obtain ⟨te0, p0, h0⟩ := hc Wx tk
  obtain ⟨te1, p1, h1⟩ := ha Wx tk
  obtain ⟨te2, p2, h2⟩ := hb Wx tk
  refine ⟨_, pe_ifExp p0 p1 p2, fun z stk vs env σ H Q k kx ok r t q qx => h0 z stk vs env σ H _ _ kx ok r t (fun c env' H' r1 k1 => ?_) qx⟩
  cases c with
  | true => exact h1 z stk vs env' σ H' Q k kx ok r1 k1 q qx
  | false => exact h2 z stk vs env' σ H' Q k kx ok r1 k1 q qx
def dNeg (ta : DTE) : DTE := fun env k kx => ta env (fun w e1 => match peek e1 w with
  | some (.d (.int i)) => k (.d (.int (-i))) e1
  | _ => False) kx
theorem de_neg (ha : DE X a ta) : DE X (.UnaryOp .USub a pos) (dNeg ta) := fun Wx tk => by
  obtain ⟨te, p, h⟩ := ha Wx tk
  refine ⟨_, pe_un un_neg p, fun z stk vs env σ H Q k kx ok r t q qx => h z stk vs env σ H _ _ kx ok r t (fun w env' v H' r1 k1 => ?_) qx⟩
  split at k1
  · rename_i i h1
    exact ⟨i, rd_int (r1.look h1), q _ _ _ _ r1.pop.pushInt k1⟩
  · exact k1.elim
end
end DL

/-! DL8: argument lists, displays, subscripts, slices. -/
namespace DL
open PySem PySem.Spec
open PyProof.Rows L2
section
variable {X : Cx} {e a b c : Expr} {ta tb tc : DTE} {pos : Pos} {es : List Expr} {tr : DTA}
def dNil : DTA := fun env k _ => k [] env
def dCons (ta : DTE) (tr : DTA) : DTA := fun env k kx => ta env (fun w e1 => tr e1 (fun ws e2 => k (w :: ws) e2) kx) kx
theorem da_nil : DA X [] dNil := fun Wx tk => ⟨_, pa_nil, fun z stk vs env σ H Q k kx ok r t q qx => q [] env [] H rfl r t⟩
theorem da_cons (hp : Pl e) (ha : DE X e ta) (hr : DA X es tr) : DA X (e :: es) (dCons ta tr) := fun Wx tk => by
  obtain ⟨te1, p1, h1⟩ := ha Wx tk
  obtain ⟨te2, p2, h2⟩ := hr Wx tk
  refine ⟨_, pa_cons p1 p2 (hp.star _ _), fun z stk vs env σ H Q k kx ok r t q qx => h1 z stk vs env σ H _ _ kx ok r t (fun w env' v H' r1 k1 => ?_) qx⟩
  refine h2 z _ _ env' σ H' _ _ kx ok r1 k1 (fun ws env2 us H2 l r2 k2 => ?_) qx
  exact q (w :: ws) env2 (v :: us) H2 (congrArg Nat.succ l) (Rel.up r2 l) k2
/-! a row of values taken -/
def useWs : List W → Env → (List W → Env → Prop) → Prop
  | [], env, k => k [] env
  | w :: ws, env, k => useW w env fun w' e1 => useWs ws e1 fun ws' e2 => k (w' :: ws') e2
def useDs : List W → Env → (List D → Env → Prop) → Prop
  | [], env, k => k [] env
  | w :: ws, env, k => useD w env fun w' e1 => useDs ws e1 fun ws' e2 => k (w' :: ws') e2
theorem Rel.useWs : ∀ {ws : List W} {z : Z} {stk : List W} {us vs : List V} {env : Env} {σ : St} {H : Hp} {k : List W → Env → Prop}, Rel z (ws ++ stk) (us ++ vs) env σ H → us.length = ws.length → DL.useWs ws env k →
    ∃ ws' env', ws'.length = ws.length ∧ ws'.all tree = true ∧ nostos ws' = true ∧ Rel z (ws' ++ stk) (us ++ vs) env' σ H ∧ k ws' env'
  | [], _, _, us, _, env, _, _, _, r, l, u => ⟨[], env, rfl, rfl, rfl, r, u⟩
  | w :: ws, _, _, [], _, _, _, _, _, _, l, _ => by cases l
  | w :: ws, z, stk, v :: us, vs, env, σ, H, k, r, l, u => by
    obtain ⟨w', e1, t1, n1, r1, u1⟩ := Rel.useW r u
    have l' := Nat.succ.inj l
    obtain ⟨ws', e2, l2, t2, n2, r2, u2⟩ := Rel.useWs (Rel.down r1 l') l' u1
    refine ⟨w' :: ws', e2, congrArg Nat.succ l2, ?_, ?_, Rel.up r2 (by rw [l2]; exact l'), u2⟩
    · show (tree w' && ws'.all tree) = true
      rw [t1, t2]; rfl
    · show (nosto w' && nostos ws') = true
      rw [n1, n2]; rfl
theorem Rel.useDs : ∀ {ws : List W} {z : Z} {stk : List W} {us vs : List V} {env : Env} {σ : St} {H : Hp} {k : List D → Env → Prop}, Rel z (ws ++ stk) (us ++ vs) env σ H → us.length = ws.length → DL.useDs ws env k →
    ∃ xs env', xs.length = ws.length ∧ Rel z (xs.map .d ++ stk) (us ++ vs) env' σ H ∧ k xs env'
  | [], _, _, us, _, env, _, _, _, r, l, u => ⟨[], env, rfl, r, u⟩
  | w :: ws, _, _, [], _, _, _, _, _, _, l, _ => by cases l
  | w :: ws, z, stk, v :: us, vs, env, σ, H, k, r, l, u => by
    obtain ⟨w', e1, r1, u1⟩ := Rel.useD r u
    have l' := Nat.succ.inj l
    obtain ⟨ws', e2, l2, r2, u2⟩ := Rel.useDs (Rel.down r1 l') l' u1
    exact ⟨w' :: ws', e2, congrArg Nat.succ l2, Rel.up r2 (by rw [List.length_map, l2]; exact l'), u2⟩
/-! displays -/
def dLst (tr : DTA) : DTE := fun env k kx => tr env (fun ws e1 => useWs ws e1 fun ws' e2 => ws'.length ≤ sizeLine ∧ k (.ol ws') e2) kx
def dTup (tr : DTA) : DTE := fun env k kx => tr env (fun ws e1 => useWs ws e1 fun ws' e2 => ws'.length ≤ sizeLine ∧ k (.ot ws') e2) kx
theorem de_lst (h : DA X es tr) : DE X (.List es pos) (dLst tr) := fun Wx tk => by
  obtain ⟨te, p, h⟩ := h Wx tk
  refine ⟨_, pe_lst p, fun z stk vs env σ H Q k kx ok r t q qx => h z stk vs env σ H _ _ kx ok r t (fun ws env' us H' l r1 k1 => ?_) qx⟩
  obtain ⟨ws', e2, l2, t2, _, r2, hl, hk⟩ := r1.useWs l k1
  exact ⟨by rw [l, ← l2]; exact hl, fun p hp => q _ _ _ _ (r2.newL (by rw [l, l2]) t2 hp ok.op) hk⟩
theorem de_tup {x1} (h : DA X es tr) : DE X (.Tuple es x1 pos) (dTup tr) := fun Wx tk => by
  obtain ⟨te, p, h⟩ := h Wx tk
  refine ⟨_, pe_tup p, fun z stk vs env σ H Q k kx ok r t q qx => h z stk vs env σ H _ _ kx ok r t (fun ws env' us H' l r1 k1 => ?_) qx⟩
  obtain ⟨ws', e2, l2, t2, _, r2, hl, hk⟩ := r1.useWs l k1
  exact ⟨by rw [l, ← l2]; exact hl, fun p hp => q _ _ _ _ (r2.newT (by rw [l, l2]) t2 hp ok.op) hk⟩
/-! a[b] -/
theorem repws_at {z : Z} {G H : Hp} : ∀ {ws : List W} {us : List V} {as : List Addr} {j : Nat} {x : D}, RepWs z G H ws us as → ws[j]? = some (.d x) → ∃ u, us[j]? = some u ∧ Rep z G x u
  | [], _, _, _, _, _, e => by simp at e
  | w :: _, _, _, 0, x, ⟨v, vs', _, _, q, _, r, _⟩, e => by
    have e0 : w = .d x := by simpa using e
    subst q e0
    exact ⟨v, rfl, r.2⟩
  | _ :: _, _, _, j + 1, x, ⟨v, vs', _, _, q, _, _, r⟩, e => by
    subst q
    obtain ⟨u, h1, h2⟩ := repws_at (j := j) r (by simpa using e)
    exact ⟨u, by simpa using h1, h2⟩
theorem RepW.row {z : Z} {G H : Hp} {w : W} {v : V} {as : List Addr} {kd : SeqK} {ws : List W} (g : Same G H) (r : RepW z G H w v as) (h : seqW w = some (kd, ws)) : ∃ p us bs, v = .ref p ∧ SqK z.K H p us kd ∧ us.length = ws.length ∧ RepWs z G H ws us bs := by
  have len : ∀ {ws : List W} {us : List V} {as : List Addr}, RepWs z G H ws us as → us.length = ws.length := fun {ws us as} h => (repws_rds g h).len
  cases w with
  | d x =>
    obtain ⟨_, r⟩ := r
    cases x with
    | lst xs => cases h; obtain ⟨a, us, q, s, r⟩ := r; exact ⟨a, us, _, q, g _ _ s, len (reps_ws (H := H) r), reps_ws r⟩
    | klst xs => cases h; obtain ⟨a, us, q, s, r⟩ := r; exact ⟨a, us, _, q, g.seq s, len (reps_ws (H := H) r), reps_ws r⟩
    | tup xs => cases h; obtain ⟨a, us, q, s, r⟩ := r; exact ⟨a, us, _, q, Same.tup g s, len (reps_ws (H := H) r), reps_ws r⟩
    | cel xs => cases h; obtain ⟨_, a, us, q, s, r⟩ := r; exact ⟨a, us, _, q, g _ _ s, len (reps_ws (H := H) r), reps_ws r⟩
    | _ => cases h
  | ol ws => cases h; obtain ⟨a, us, as', q, _, e, r⟩ := r; exact ⟨a, us, _, q, e, len r, r⟩
  | oL ws => cases h; obtain ⟨a, us, as', _, q, _, e, r⟩ := r; exact ⟨a, us, _, q, e, len r, r⟩
  | ot ws => cases h; obtain ⟨a, us, as', q, _, e, r⟩ := r; exact ⟨a, us, _, q, SqT.of e, len r, r⟩
  | _ => cases h
theorem atI_some {α : Type} {xs : List α} {i : Int} {x : α} (h : atI xs i = some x) : ∃ j, ixN xs.length i = some j ∧ xs[j]? = some x := by
  unfold atI at h
  cases e : ixN xs.length i with
  | none => rw [e] at h; cases h
  | some j => rw [e] at h; exact ⟨j, rfl, h⟩
theorem atI_of {α β : Type} {xs : List α} {ys : List β} {i : Int} {j : Nat} {y : β} (hl : ys.length = xs.length) (h : ixN xs.length i = some j) (e : ys[j]? = some y) : atI ys i = some y := by
  unfold atI
  rw [hl, h]
  exact e
def rowOf : D → Option (List D)
  | .lst xs => some xs
  | .klst xs => some xs
  | .tup xs => some xs
  | _ => none
/-- an item; an owned item freezes the row -/
def kItem (wa : W) (i : Int) (env : Env) (k : DK) : Prop := match peek env wa with
  | some (.d (.str s)) => match atI s i with
    | some c => s.length ≤ sizeLine ∧ k (.d (.str [c])) env
    | none => False
  | some a => match (seqW a).bind fun p => atI p.2 i with
    | some (.d x) => k (.d x) env
    | some _ => useD wa env fun x e1 => match (rowOf x).bind fun xs => atI xs i with
      | some y => k (.d y) e1
      | none => False
    | none => False
  | none => False
def sIx : DOp := fun wa wb env k => match peek env wb with
  | some (.d (.int i)) => kItem wa i env k
  | _ => False
theorem kItem_d {z : Z} {stk : List W} {vs : List V} {env : Env} {σ : St} {H : Hp} {wa : W} {va : V} {a : W} {i : Int} {x : D} {Q : VK} {k : DK} (r : Rel z (wa :: stk) (va :: vs) env σ H) (h1 : peek env wa = some a) (h2 : (seqW a).bind (fun p => atI p.2 i) = some (.d x)) (hk : k (.d x) env)
    (q : ∀ w env' v H', Rel z (w :: stk) (v :: vs) env' σ H' → k w env' → Q v H') : rIx z.K va (.int i) H Q := by
  obtain ⟨G, rg⟩ := r
  obtain ⟨as, ra⟩ := RelG.view rg h1
  cases e : seqW a with
  | none => rw [e] at h2; cases h2
  | some p =>
    obtain ⟨kd, ws⟩ := p
    rw [e] at h2
    obtain ⟨j, h3, h4⟩ := atI_some (show atI ws i = some (.d x) from h2)
    obtain ⟨pa, us, bs, ev, sq, l, rws⟩ := ra.row (RelG.core rg).gh e
    obtain ⟨u, h5, h6⟩ := repws_at rws h4
    have hq := q _ _ _ _ (Rel.pop (Rel.swap (RelG.r (RelG.push1 rg h6)))) hk
    have ha : atI us i = some u := atI_of l h3 h5
    subst ev
    cases kd with
    | l => exact .inl ⟨pa, us, i, u, rfl, rfl, SqL.of sq, ha, hq⟩
    | r => exact .inl ⟨pa, us, i, u, rfl, rfl, sq, ha, hq⟩
    | t => exact .inr (.inl ⟨pa, us, i, u, rfl, rfl, sq, ha, hq⟩)
theorem atI_map {α β : Type} (f : α → β) (xs : List α) (i : Int) : atI (xs.map f) i = (atI xs i).map f := by
  unfold atI
  rw [List.length_map]
  cases ixN xs.length i with
  | none => rfl
  | some j => show (xs.map f)[j]? = (xs[j]?).map f; rw [List.getElem?_map]
theorem seqW_row {x : D} {xs : List D} (h : rowOf x = some xs) : ∃ kd, seqW (.d x) = some (kd, xs.map .d) := by
  cases x <;> first | (cases h; exact ⟨_, rfl⟩) | cases h
theorem opd_ix : OpD X (rIx X.K) sIx := fun z stk vs env σ H Q k wa wb va vb ok r h q => by
  unfold sIx at h
  split at h
  · rename_i i h2
    have e2 := rd_int (r.look h2)
    subst e2
    rw [← ok.k]
    unfold kItem at h
    split at h
    · rename_i s h1
      have e1 := rd_str (r.look2 h1)
      subst e1
      split at h
      · rename_i c hc
        exact .inr (.inr ⟨_, i, c, rfl, rfl, by rw [str_len]; exact h.1, hc, q _ _ _ _ r.pop.pop.pushStr h.2⟩)
      · exact h.elim
    · rename_i a _ h1
      split at h
      · rename_i x hx
        exact kItem_d r.pop h1 hx h q
      · obtain ⟨x, e1, r1, h3⟩ := r.pop.useD h
        split at h3
        · rename_i y hy
          cases e : rowOf x with
          | none => rw [e] at hy; cases hy
          | some xs =>
            rw [e] at hy
            obtain ⟨kd, es⟩ := seqW_row e
            refine kItem_d (a := .d x) (x := y) r1 rfl ?_ h3 q
            rw [es]
            show atI (xs.map W.d) i = some (.d y)
            rw [atI_map, show atI xs i = some y from hy]; rfl
        · exact h3.elim
      · exact h.elim
    · exact h.elim
  · exact h.elim
theorem de_ix (hp : Pl b) (ha : DE X a ta) (hb : DE X b tb) : DE X (.Subscript a b pos) (dOp sIx ta tb) := de_op (fun h h' => pe_ix ix_seq h h' hp.ix) opd_ix ha hb
/-! slices -/
abbrev DTO := Env → (Option Int → Env → Prop) → XC → Prop
def DO (X : Cx) (e : Option Expr) (t : DTO) : Prop := ∀ Wx, L2N.Takes X Wx → ∃ te, PO X e te ∧ ∀ z stk vs env σ H (Q : Option Int → Hp → Prop) (k : Option Int → Env → Prop) (kx : XC), Okz X z → Rel z stk vs env σ H → t env k kx →
  (∀ o env' H', Rel z stk vs env' σ H' → k o env' → Q o H') → (∀ x env' cls d H', RelX z x cls d env' σ H' → kx x env' → Wx cls d σ H') → te σ H Q
def dNo : DTO := fun env k _ => k none env
def dSo (ta : DTE) : DTO := fun env k kx => ta env (fun w e1 => match peek e1 w with
  | some (.d (.int i)) => k (some i) e1
  | _ => False) kx
theorem do_no : DO X none dNo := fun Wx tk => ⟨_, po_none, fun z stk vs env σ H Q k kx ok r t q qx => q none env H r t⟩
theorem do_so (ha : DE X a ta) : DO X (some a) (dSo ta) := fun Wx tk => by
  obtain ⟨te, p, h⟩ := ha Wx tk
  refine ⟨_, po_some p, fun z stk vs env σ H Q k kx ok r t q qx => h z stk vs env σ H _ _ kx ok r t (fun w env' v H' r1 k1 => ?_) qx⟩
  split at k1
  · rename_i i h1
    exact ⟨i, rd_int (r1.look h1), q _ _ _ r1.pop k1⟩
  · exact k1.elim
def cutL {α : Type} (xs : List α) (lo hi : Option Int) : List α := (xs.drop (HT.sIx xs.length 0 lo)).take (HT.sIx xs.length xs.length hi - HT.sIx xs.length 0 lo)
def kSl (wa : W) (lo hi : Option Int) (env : Env) (k : DK) : Prop := match peek env wa with
  | some (.d (.str s)) => s.length ≤ sizeLine ∧ k (.d (.str (cutL s lo hi))) env
  | _ => rowD wa env fun kd xs e1 => match kd with
    | .t => ¬ (HT.sIx xs.length 0 lo = 0 ∧ HT.sIx xs.length xs.length hi = xs.length) ∧ k (.ot ((cutL xs lo hi).map .d)) e1
    | _ => k (.ol ((cutL xs lo hi).map .d)) e1
def dSl (ta : DTE) (tl th : DTO) : DTE := fun env k kx => ta env (fun wa e1 => tl e1 (fun lo e2 => th e2 (fun hi e3 => kSl wa lo hi e3 k) kx) kx) kx
theorem SlR.or {r r' : V → Option Int → Option Int → Hp → VK → Prop} (h : SlR X r) (h' : SlR X r') : SlR X (fun x lo hi H Q => r x lo hi H Q ∨ r' x lo hi H Q) := fun pins s σ H x v vl vu lo hi sl Q I rx hs pl pu q => q.elim (h pins s σ H x v vl vu lo hi sl Q I rx hs pl pu) (h' pins s σ H x v vl vu lo hi sl Q I rx hs pl pu)
theorem reps_take {z : Z} {G : Hp} : ∀ {xs : List D} {us : List V} (n : Nat), Reps z G xs us → Reps z G (xs.take n) (us.take n)
  | _, _, 0, _ => by rw [List.take_zero, List.take_zero]; rfl
  | [], _, n + 1, q => by cases q; rfl
  | _ :: _, _, n + 1, ⟨v, vs, q, r, r2⟩ => by subst q; exact ⟨v, _, rfl, r, reps_take n r2⟩
theorem reps_drop {z : Z} {G : Hp} : ∀ {xs : List D} {us : List V} (n : Nat), Reps z G xs us → Reps z G (xs.drop n) (us.drop n)
  | _, _, 0, h => h
  | [], _, n + 1, q => by cases q; rfl
  | _ :: _, _, n + 1, ⟨v, vs, q, r, r2⟩ => by subst q; exact reps_drop n r2
theorem reps_cut {z : Z} {G : Hp} {xs : List D} {us : List V} (lo hi : Option Int) (r : Reps z G xs us) (l : us.length = xs.length) : Reps z G (cutL xs lo hi) (cutV us lo hi) := by
  unfold cutL cutV
  rw [l]
  exact reps_take _ (reps_drop _ r)
theorem repsLen {z : Z} {G : Hp} {xs : List D} {us : List V} (r : Reps z G xs us) : us.length = xs.length := by
  have := (reps_rds (H := G) (Same.refl G) r).len
  rw [List.length_map] at this; exact this
theorem de_sl {lo hi : Option Expr} {tl th : DTO} {p2 : Pos} (ha : DE X a ta) (hl : DO X lo tl) (hh : DO X hi th) : DE X (.Subscript a (.Slice lo hi none p2) pos) (dSl ta tl th) := fun Wx tk => by
  obtain ⟨te1, p1, h1⟩ := ha Wx tk
  obtain ⟨te2, p2, h2⟩ := hl Wx tk
  obtain ⟨te3, p3, h3⟩ := hh Wx tk
  refine ⟨_, pe_slice (SlR.or sl_str (SlR.or sl_list sl_tup)) p1 p2 p3, fun z stk vs env σ H Q k kx ok r t q qx => h1 z stk vs env σ H _ _ kx ok r t (fun w env' v H' r1 k1 => ?_) qx⟩
  refine h2 z _ _ env' σ H' _ _ kx ok r1 k1 (fun lo env2 H2 r2 k2 => ?_) qx
  refine h3 z _ _ env2 σ H2 _ _ kx ok r2 k2 (fun hi env3 H3 r3 k3 => ?_) qx
  unfold kSl at k3
  split at k3
  · rename_i s hs
    have es := rd_str (r3.look hs)
    subst es
    refine .inl ⟨_, rfl, by rw [str_len]; exact k3.1, ?_⟩
    have e : cutS ⟨s.toArray⟩ lo hi = ⟨(cutL s lo hi).toArray⟩ := by
      unfold cutS cutL
      rw [str_len]
    rw [e]
    exact q _ _ _ _ r3.pop.pushStr k3.2
  · obtain ⟨kd, xs, e4, a, us, ea, sa, la, r4, k4⟩ := r3.rowD k3
    obtain ⟨G, rg, rp⟩ := r4.ds la
    have rc := reps_cut lo hi rp la
    have r5 := RelG.push rg rc
    subst ea
    have lc : (cutV us lo hi).length = ((cutL xs lo hi).map W.d).length := by rw [List.length_map]; exact repsLen rc
    cases kd with
    | l => exact .inr (.inl ⟨a, us, rfl, ok.k ▸ SqL.of sa, fun p hp => q _ _ _ _ (r5.r.newL lc all_tree hp ok.op) k4⟩)
    | r => exact .inr (.inl ⟨a, us, rfl, ok.k ▸ sa, fun p hp => q _ _ _ _ (r5.r.newL lc all_tree hp ok.op) k4⟩)
    | t => exact .inr (.inr ⟨a, us, rfl, ok.k ▸ sa, by rw [la]; exact k4.1, fun p hp => q _ _ _ _ (r5.r.newT lc all_tree hp ok.op) k4.2⟩)
end
end DL

/-! DL9: built-in functions. -/
namespace DL
open PySem PySem.Spec
open PyProof.Rows L2
abbrev DCl := List W → Env → DK → Prop
def dCl (s : DCl) (tr : DTA) : DTE := fun env k kx => tr env (fun ws e1 => s ws e1 k) kx
section
variable {X : Cx} {e a b c o : Expr} {ta tb tc to : DTE} {pos p apos : Pos} {es : List Expr} {tr : DTA} {x : Str} {id T : String}
def CallD (X : Cx) (r : List V → Hp → VK → Prop) (s : DCl) : Prop := ∀ z stk vs env σ H (Q : VK) (k : DK) ws us, Okz X z → Rel z (ws ++ stk) (us ++ vs) env σ H → us.length = ws.length → s ws env k →
  (∀ w env' v H', Rel z (w :: stk) (v :: vs) env' σ H' → k w env' → Q v H') → r us H Q
/-- all are plain -/
def Pls (es : List Expr) : Prop := ∀ e ∈ es, Pl e
theorem Pls.any {es : List Expr} (h : Pls es) {pos : Pos} {env : PySem.Env} : (backTo pos (starEach es env)).any (·.1) = false := by
  induction es with
  | nil => rfl
  | cons e es ih =>
    rw [(h e List.mem_cons_self).star es env]
    show (false || (backTo pos (starEach es env)).any (·.1)) = false
    rw [ih fun x m => h x (List.mem_cons_of_mem _ m)]; rfl
theorem Pls.tl {e : Expr} {es : List Expr} (h : Pls (e :: es)) : Pls es := fun x m => h x (List.mem_cons_of_mem _ m)
theorem Pls.hd {e : Expr} {es : List Expr} (h : Pls (e :: es)) : Pl e := h e List.mem_cons_self
theorem de_cl {r : List V → Hp → VK → Prop} {s : DCl} {f : Expr} (he : ∀ {t : TA}, PA X es t → PE X f (tCB r t)) (hd : CallD X r s) (ha : DA X es tr) : DE X f (dCl s tr) := fun Wx tk => by
  obtain ⟨te, p, h⟩ := ha Wx tk
  exact ⟨_, he p, fun z stk vs env σ H Q k kx ok rl t q qx => h z stk vs env σ H _ _ kx ok rl t (fun ws env' us H' l r1 k1 => hd z stk vs env' σ H' Q k ws us ok r1 l k1 q) qx⟩
theorem de_callB {r : List V → Hp → VK → Prop} {s : DCl} (hc : CallR X (.builtin id) r) (hd : CallD X r s) (hg : Gl X x) (hm : X.mg x = none) (hv : bootBuiltins x = some (.builtin id)) (hn : x ≠ "__name__") (hdb : (x == ("__debug__" : Str)) = false) (hp : Pls (e :: es)) (ha : DA X (e :: es) tr) :
    DE X (.Call (.Name x p) (e :: es) [] pos) (dCl s tr) := de_cl (fun h => pe_callB hc hg hm hv h hn hdb (hp.hd.star _ _) hp.tl.any) hd ha
theorem de_callT {r : List V → Hp → VK → Prop} {s : DCl} (hc : CallR X (.type T) r) (hd : CallD X r s) (hg : Gl X x) (hm : X.mg x = none) (hv : bootBuiltins x = some (.type T)) (hn : x ≠ "__name__") (hdb : (x == ("__debug__" : Str)) = false) (hp : Pls (e :: es)) (ha : DA X (e :: es) tr) :
    DE X (.Call (.Name x p) (e :: es) [] pos) (dCl s tr) := de_cl (fun h => pe_callTy hc hg hm hv h hn hdb (hp.hd.star _ _) hp.tl.any) hd ha
theorem CallR.or {f : Value} {r r' : List V → Hp → VK → Prop} (h : CallR X f r) (h' : CallR X f r') : CallR X f (fun xs H Q => r xs H Q ∨ r' xs H Q) := fun pins s σ H xs us Q I rv q => q.elim (h pins s σ H xs us Q I rv) (h' pins s σ H xs us Q I rv)
/-- one argument -/
def s1 (f : W → Env → DK → Prop) : DCl := fun ws env k => match ws with
  | [w] => f w env k
  | _ => False
theorem calld1 {r : List V → Hp → VK → Prop} {f : W → Env → DK → Prop} (h : ∀ z stk vs env σ H (Q : VK) (k : DK) w v, Okz X z → Rel z (w :: stk) (v :: vs) env σ H → f w env k → (∀ w env' v H', Rel z (w :: stk) (v :: vs) env' σ H' → k w env' → Q v H') → r [v] H Q) : CallD X r (s1 f) :=
  fun z stk vs env σ H Q k ws us ok rl l u q => by
    unfold s1 at u
    split at u
    · rename_i w
      cases us with
      | nil => cases l
      | cons v us =>
        cases us with
        | nil => exact h z stk vs env σ H Q k w v ok rl u q
        | cons _ _ => cases l
    · exact u.elim
/-- two arguments -/
def s2 (f : W → W → Env → DK → Prop) : DCl := fun ws env k => match ws with
  | [w, w2] => f w w2 env k
  | _ => False
theorem calld2 {r : List V → Hp → VK → Prop} {f : W → W → Env → DK → Prop} (h : ∀ z stk vs env σ H (Q : VK) (k : DK) w v w2 v2, Okz X z → Rel z (w :: w2 :: stk) (v :: v2 :: vs) env σ H → f w w2 env k → (∀ w env' v H', Rel z (w :: stk) (v :: vs) env' σ H' → k w env' → Q v H') → r [v, v2] H Q) : CallD X r (s2 f) :=
  fun z stk vs env σ H Q k ws us ok rl l u q => by
    unfold s2 at u
    split at u
    · rename_i w w2
      cases us with
      | nil => cases l
      | cons v us =>
        cases us with
        | nil => cases l
        | cons v2 us =>
          cases us with
          | nil => exact h z stk vs env σ H Q k w v w2 v2 ok rl u q
          | cons _ _ => cases l
    · exact u.elim
/-! len -/
def lenW (a : W) : Option Nat := match a with
  | .d (.str s) => some s.length
  | .d (.dct kvs) => some kvs.length
  | .od kvs => some kvs.length
  | a => (seqW a).map fun p => p.2.length
def kLen (w : W) (env : Env) (k : DK) : Prop := match peek env w with
  | some a => match lenW a with
    | some n => lenD a ≤ sizeLine ∧ k (.d (.int n)) env
    | none => False
  | none => False
theorem repk_len {z : Z} {G : Hp} : ∀ {xs : List (Key × D)} {us : List (Key × V)}, RepK z G xs us → us.length = xs.length
  | [], _, q => by cases q; rfl
  | (_, _) :: _, _, ⟨v, vs, q, _, r⟩ => by subst q; exact congrArg Nat.succ (repk_len r)
theorem repwk_len {z : Z} {G H : Hp} : ∀ {xs : List (Key × W)} {us : List (Key × V)} {as : List Addr}, RepWk z G H xs us as → us.length = xs.length
  | [], _, _, q => by cases q.1; rfl
  | (_, _) :: _, _, _, ⟨v, vs, _, _, q, _, _, r⟩ => by subst q; exact congrArg Nat.succ (repwk_len r)
def rLenA (K : PySem.W.Frag) : List V → Hp → VK → Prop := fun xs H Q => (∃ x n, xs = [x] ∧ LenV K x H n ∧ Q (.int n) H)
theorem seq_len {z : Z} {H : Hp} {w : W} {v : V} (r : Rd1 z H w v) {p : SeqK × List W} (h : seqW w = some p) : LenV z.K v H p.2.length := by
  obtain ⟨kd, ws⟩ := p
  obtain ⟨a, us, ev, sq, rs⟩ := r.seq h
  subst ev
  have l := rs.len
  cases kd with
  | l => exact .inl ⟨us, SqL.of sq, by rw [l]⟩
  | r => exact .inl ⟨us, sq, by rw [l]⟩
  | t => exact .inr ⟨us, sq, by rw [l]⟩
def noDict : W → Bool
  | .d (.dct _) => false
  | .od _ => false
  | _ => true
def kLenN (w : W) (env : Env) (k : DK) : Prop := match peek env w with
  | some a => match lenW a with
    | some n => noDict a = true ∧ lenD a ≤ sizeLine ∧ k (.d (.int n)) env
    | none => False
  | none => False
theorem cd_len : CallD X (rLenA X.K) (s1 kLenN) := calld1 fun z stk vs env σ H Q k w v ok r u q => by
  unfold kLenN at u
  split at u
  · rename_i a h1
    split at u
    · rename_i n h2
      obtain ⟨nd, hl, hk⟩ := u
      refine ⟨v, n, rfl, ?_, q _ _ _ _ r.pop.pushInt hk⟩
      have rd := r.look h1
      cases a with
      | d x =>
        cases x with
        | str s =>
          cases h2
          have e := rd_str rd
          subst e
          exact ⟨by rw [str_len]; exact hl, by rw [str_len]⟩
        | dct _ => cases nd
        | lst xs => cases h2; exact ok.k ▸ seq_len rd rfl
        | klst xs => cases h2; exact ok.k ▸ seq_len rd rfl
        | tup xs => cases h2; exact ok.k ▸ seq_len rd rfl
        | cel xs => cases h2; exact ok.k ▸ seq_len rd rfl
        | _ => cases h2
      | ol ws => cases h2; exact ok.k ▸ seq_len rd rfl
      | oL ws => cases h2; exact ok.k ▸ seq_len rd rfl
      | ot ws => cases h2; exact ok.k ▸ seq_len rd rfl
      | od _ => cases nd
      | _ => cases h2
    · exact u.elim
  · exact u.elim
/-! int, str, abs, max, min -/
def kInt (w : W) (env : Env) (k : DK) : Prop := match peek env w with
  | some (.d (.int i)) => k (.d (.int i)) env
  | some (.d (.bl b)) => k (.d (.int (if b then 1 else 0))) env
  | some (.d (.str s)) => match PySem.intText? ⟨s.toArray⟩ with
    | some n => s.length ≤ 640 ∧ k (.d (.int n)) env
    | none => False
  | _ => False
def rIntA : List V → Hp → VK → Prop := fun xs H Q => ((∃ i, xs = [.int i] ∧ Q (.int i) H) ∨ ∃ k, xs = [.bl k] ∧ Q (.int (if k then 1 else 0)) H) ∨ ∃ a n, xs = [.str a] ∧ PySem.intText? a = some n ∧ a.length ≤ 640 ∧ Q (.int n) H
theorem call_intA : CallR X (.type "int") rIntA := CallR.or call_int1 call_int_str
theorem cd_int : CallD X rIntA (s1 kInt) := calld1 fun z stk vs env σ H Q k w v ok r u q => by
  unfold kInt at u
  split at u
  · rename_i i h1
    have e := rd_int (r.look h1)
    subst e
    exact .inl (.inl ⟨i, rfl, q _ _ _ _ r.pop.pushInt u⟩)
  · rename_i i h1
    have e := rd_bl (r.look h1)
    subst e
    exact .inl (.inr ⟨i, rfl, q _ _ _ _ r.pop.pushInt u⟩)
  · rename_i s h1
    have e := rd_str (r.look h1)
    subst e
    split at u
    · rename_i n hn
      exact .inr ⟨_, n, rfl, hn, by rw [str_len]; exact u.1, q _ _ _ _ r.pop.pushInt u.2⟩
    · exact u.elim
  · exact u.elim
/-- a number's text -/
def showI (i : Int) : List Nat := (toString i).toList.map Char.toNat
theorem showI_str (i : Int) : (Str.ofString (toString i) : Str) = ⟨(showI i).toArray⟩ := Str.ofString_eq_toList _
def kStr (w : W) (env : Env) (k : DK) : Prop := match peek env w with
  | some (.d (.int i)) => i.natAbs.log2 < 1920 ∧ k (.d (.str (showI i))) env
  | some (.d (.str s)) => k (.d (.str s)) env
  | _ => False
def rStrA : List V → Hp → VK → Prop := fun xs H Q => (∃ i, xs = [.int i] ∧ i.natAbs.log2 < 1920 ∧ Q (.str (toString i)) H) ∨ ∃ a, xs = [.str a] ∧ Q (.str a) H
theorem call_strA : CallR X (.type "str") rStrA := CallR.or call_str_int SkE.call_str_str
theorem cd_str : CallD X rStrA (s1 kStr) := calld1 fun z stk vs env σ H Q k w v ok r u q => by
  unfold kStr at u
  split at u
  · rename_i i h1
    have e := rd_int (r.look h1)
    subst e
    refine .inl ⟨i, rfl, u.1, ?_⟩
    rw [showI_str]
    exact q _ _ _ _ r.pop.pushStr u.2
  · rename_i i h1
    have e := rd_str (r.look h1)
    subst e
    exact .inr ⟨_, rfl, q _ _ _ _ r.pop.pushStr u⟩
  · exact u.elim
def kRepr (w : W) (env : Env) (k : DK) : Prop := match peek env w with
  | some (.d (.int i)) => i.natAbs.log2 < 1920 ∧ k (.d (.str (showI i))) env
  | some (.d (.bl b)) => k (.d (.str (if b then [84, 114, 117, 101] else [70, 97, 108, 115, 101]))) env
  | some (.d .non) => k (.d (.str [78, 111, 110, 101])) env
  | _ => False
def rReprA : List V → Hp → VK → Prop := fun xs H Q => (∃ i, xs = [.int i] ∧ i.natAbs.log2 < 1920 ∧ Q (.str (toString i)) H) ∨ (∃ b, xs = [.bl b] ∧ Q (.str ((if b then "True" else "False" : String) : Str)) H) ∨ (xs = [.non] ∧ Q (.str ("None" : Str)) H)
theorem call_reprA : CallR X (.builtin "repr") rReprA := by
  refine CallR.or SkE.call_repr_int (CallR.or ?_ ?_)
  · intro pins s σ H xs us Q I r h
    obtain ⟨i, rfl, q⟩ := h
    cases r with
    | cons r1 r2 =>
      cases r2
      cases r1
      refine PySem.P.repr_of_bool ⟨.str _, H, I.tok _, ⟨_, rfl⟩, ?_⟩
      cases i <;> exact q
  · intro pins s σ H xs us Q I r h
    obtain ⟨rfl, q⟩ := h
    cases r with
    | cons r1 r2 =>
      cases r2
      cases r1
      exact PySem.P.repr_of_none ⟨.str _, H, I.tok _, ⟨_, rfl⟩, q⟩
theorem cd_repr : CallD X rReprA (s1 kRepr) := calld1 fun z stk vs env σ H Q k w v ok r u q => by
  unfold kRepr at u
  split at u
  · rename_i i h1
    have e := rd_int (r.look h1)
    subst e
    refine .inl ⟨i, rfl, u.1, ?_⟩
    rw [showI_str]
    exact q _ _ _ _ r.pop.pushStr u.2
  · rename_i b h1
    have e := rd_bl (r.look h1)
    subst e
    refine .inr (.inl ⟨b, rfl, ?_⟩)
    have e : ((if b then "True" else "False" : String) : Str) = ⟨(if b then [84, 114, 117, 101] else [70, 97, 108, 115, 101] : List Nat).toArray⟩ := by cases b <;> decide +kernel
    rw [e]
    exact q _ _ _ _ r.pop.pushStr u
  · rename_i h1
    have e := rd_non (r.look h1)
    subst e
    refine .inr (.inr ⟨rfl, ?_⟩)
    have e : ("None" : Str) = ⟨([78, 111, 110, 101] : List Nat).toArray⟩ := by decide +kernel
    rw [e]
    exact q _ _ _ _ r.pop.pushStr u
  · exact u.elim
def kAbs (w : W) (env : Env) (k : DK) : Prop := match peek env w with
  | some (.d (.int i)) => k (.d (.int (if i < 0 then -i else i))) env
  | _ => False
theorem cd_abs : CallD X (fun xs H Q => ∃ i, xs = [.int i] ∧ Q (.int (if i < 0 then -i else i)) H) (s1 kAbs) := calld1 fun z stk vs env σ H Q k w v ok r u q => by
  unfold kAbs at u
  split at u
  · rename_i i h1
    have e := rd_int (r.look h1)
    subst e
    exact ⟨i, rfl, q _ _ _ _ r.pop.pushInt u⟩
  · exact u.elim
def kI2 (g : Int → Int → Int) (w w2 : W) (env : Env) (k : DK) : Prop := match peek env w, peek env w2 with
  | some (.d (.int i)), some (.d (.int j)) => k (.d (.int (g i j))) env
  | _, _ => False
theorem cd_i2 {g : Int → Int → Int} : CallD X (fun xs H Q => ∃ i j, xs = [.int i, .int j] ∧ Q (.int (g i j)) H) (s2 (kI2 g)) := calld2 fun z stk vs env σ H Q k w v w2 v2 ok r u q => by
  unfold kI2 at u
  split at u
  · rename_i i j h1 h2
    have e1 := rd_int (r.look h1)
    have e2 := rd_int (r.pop.look h2)
    subst e1 e2
    exact ⟨i, j, rfl, q _ _ _ _ r.pop.pop.pushInt u⟩
  · exact u.elim
/-! rows: list(..), tuple(..), sum, all, any, max, min -/
def kListOf (w : W) (env : Env) (k : DK) : Prop := rowD w env fun _ xs e1 => k (.ol (xs.map .d)) e1
theorem cd_list : CallD X (fun xs H Q => ∃ p ys, xs = [.ref p] ∧ (SqL X.K H p ys ∨ SqT X.K H p ys) ∧ ∀ l, H l = none → Q (.ref l) (upd H l (.lst ys))) (s1 kListOf) := calld1 fun z stk vs env σ H Q k w v ok r u q => by
  obtain ⟨kd, xs, e1, a, us, ea, sa, la, r1, hk⟩ := r.rowD u
  subst ea
  exact ⟨a, us, rfl, ok.k ▸ sqk_or sa, fun p hp => q _ _ _ _ (r1.newL (by rw [List.length_map]; exact la) all_tree hp ok.op) hk⟩
/-- a tuple of a list is new; of a tuple it is the same -/
def kTupOf (w : W) (env : Env) (k : DK) : Prop := match (peek env w).bind seqW with
  | some (.t, _) => useW w env k
  | _ => rowD w env fun kd xs e1 => match kd with
    | .t => False
    | _ => k (.ot (xs.map .d)) e1
theorem cd_tuple : CallD X (fun xs H Q => ∃ p ys, xs = [.ref p] ∧ ((SqL X.K H p ys ∧ ∀ l, H l = none → Q (.ref l) (upd H l (.tup ys))) ∨ (SqT X.K H p ys ∧ Q (.ref p) H))) (s1 kTupOf) := calld1 fun z stk vs env σ H Q k w v ok r u q => by
  unfold kTupOf at u
  split at u
  · rename_i ws h
    cases h1 : peek env w with
    | none => rw [h1] at h; cases h
    | some a =>
      rw [h1] at h
      obtain ⟨p, us, ev, sq, _⟩ := (r.look h1).seq (show seqW a = some (.t, ws) from h)
      obtain ⟨w', e1, _, _, r1, hk⟩ := r.useW u
      subst ev
      exact ⟨p, us, rfl, .inr ⟨ok.k ▸ sq, q _ _ _ _ r1 hk⟩⟩
  · obtain ⟨kd, xs, e1, a, us, ea, sa, la, r1, hk⟩ := r.rowD u
    subst ea
    cases kd with
    | l => exact ⟨a, us, rfl, .inl ⟨ok.k ▸ SqL.of sa, fun p hp => q _ _ _ _ (r1.newT (by rw [List.length_map]; exact la) all_tree hp ok.op) hk⟩⟩
    | r => exact ⟨a, us, rfl, .inl ⟨ok.k ▸ sa, fun p hp => q _ _ _ _ (r1.newT (by rw [List.length_map]; exact la) all_tree hp ok.op) hk⟩⟩
    | t => exact hk.elim
def intsOf : List D → Option (List Int)
  | [] => some []
  | .int i :: xs => (intsOf xs).map (i :: ·)
  | _ => none
def blsOf : List D → Option (List Bool)
  | [] => some []
  | .bl i :: xs => (blsOf xs).map (i :: ·)
  | _ => none
theorem intsOf_eq : ∀ {xs : List D} {ns : List Int}, intsOf xs = some ns → xs = ns.map .int
  | [], _, h => by cases h; rfl
  | .int i :: xs, ns, h => by
    have h : (intsOf xs).map (i :: ·) = some ns := h
    cases e : intsOf xs with
    | none => rw [e] at h; cases h
    | some ys => rw [e] at h; cases h; rw [intsOf_eq e]; rfl
theorem intsOf_map : ∀ {ns : List Int}, intsOf (ns.map .int) = some ns
  | [] => rfl
  | x :: xs => by show (intsOf (xs.map .int)).map (x :: ·) = _; rw [intsOf_map]; rfl
theorem blsOf_eq : ∀ {xs : List D} {ns : List Bool}, blsOf xs = some ns → xs = ns.map .bl
  | [], _, h => by cases h; rfl
  | .bl i :: xs, ns, h => by
    have h : (blsOf xs).map (i :: ·) = some ns := h
    cases e : blsOf xs with
    | none => rw [e] at h; cases h
    | some ys => rw [e] at h; cases h; rw [blsOf_eq e]; rfl
theorem blsOf_map : ∀ {ns : List Bool}, blsOf (ns.map .bl) = some ns
  | [] => rfl
  | x :: xs => by show (blsOf (xs.map .bl)).map (x :: ·) = _; rw [blsOf_map]; rfl
theorem reps_ints {z : Z} {G : Hp} : ∀ {ns : List Int} {us : List V}, Reps z G (ns.map .int) us → us = ns.map .int
  | [], _, q => q
  | _ :: _, _, ⟨v, vs, q, r, r2⟩ => by subst q; rw [reps_ints r2]; cases r; rfl
theorem reps_bls {z : Z} {G : Hp} : ∀ {ns : List Bool} {us : List V}, Reps z G (ns.map .bl) us → us = ns.map .bl
  | [], _, q => q
  | _ :: _, _, ⟨v, vs, q, r, r2⟩ => by subst q; rw [reps_bls r2]; cases r; rfl
def kInts (f : List Int → (D → Prop) → Prop) (w : W) (env : Env) (k : DK) : Prop := rowD w env fun kd xs e1 => match kd, intsOf xs with
  | .t, _ => False
  | _, some ns => f ns fun x => k (.d x) e1
  | _, none => False
theorem kInts_elim {f : List Int → (D → Prop) → Prop} {z : Z} {stk : List W} {vs : List V} {env : Env} {σ : St} {H : Hp} {w : W} {v : V} {k : DK} (r : Rel z (w :: stk) (v :: vs) env σ H) (u : kInts f w env k) :
    ∃ a ns env', v = .ref a ∧ SqL z.K H a (ns.map .int) ∧ Rel z stk vs env' σ H ∧ f ns fun x => k (.d x) env' := by
  obtain ⟨kd, xs, e1, a, us, ea, sa, la, r1, hk⟩ := r.rowD u
  cases e : intsOf xs with
  | none => cases kd <;> (simp only [e] at hk)
  | some ns =>
    have ex := intsOf_eq e
    obtain ⟨G, rg, rp⟩ := r1.ds la
    rw [ex] at rp
    have eu := reps_ints rp
    subst eu
    cases kd with
    | l => simp only [e] at hk; exact ⟨a, ns, e1, ea, SqL.of sa, RelG.r rg, hk⟩
    | r => simp only [e] at hk; exact ⟨a, ns, e1, ea, sa, RelG.r rg, hk⟩
    | t => exact hk.elim
theorem cd_sum : CallD X (rSum X.K) (s1 (kInts fun ns q => q (.int ns.sum))) := calld1 fun z stk vs env σ H Q k w v ok r u q => by
  obtain ⟨a, ns, e1, ea, sa, r1, hk⟩ := kInts_elim r u
  exact ⟨a, ns, by rw [ea], ok.k ▸ sa, q _ _ _ _ r1.pushInt hk⟩
theorem cd_max1 : CallD X (rMax X.K) (s1 (kInts fun ns q => ns ≠ [] ∧ ∀ m, m ∈ ns → (∀ y ∈ ns, y ≤ m) → q (.int m))) := calld1 fun z stk vs env σ H Q k w v ok r u q => by
  obtain ⟨a, ns, e1, ea, sa, r1, hn, hk⟩ := kInts_elim r u
  refine ⟨a, ns, by rw [ea], ok.k ▸ sa, ?_, fun m h1 h2 => q _ _ _ _ r1.pushInt (hk m h1 h2)⟩
  cases ns with
  | nil => exact absurd rfl hn
  | cons _ _ => exact Nat.succ_pos _
theorem cd_min1 : CallD X (rMin X.K) (s1 (kInts fun ns q => ns ≠ [] ∧ ∀ m, m ∈ ns → (∀ y ∈ ns, m ≤ y) → q (.int m))) := calld1 fun z stk vs env σ H Q k w v ok r u q => by
  obtain ⟨a, ns, e1, ea, sa, r1, hn, hk⟩ := kInts_elim r u
  refine ⟨a, ns, by rw [ea], ok.k ▸ sa, ?_, fun m h1 h2 => q _ _ _ _ r1.pushInt (hk m h1 h2)⟩
  cases ns with
  | nil => exact absurd rfl hn
  | cons _ _ => exact Nat.succ_pos _
def kBls (f : List Bool → Bool) (w : W) (env : Env) (k : DK) : Prop := rowD w env fun kd xs e1 => match kd, blsOf xs with
  | .t, _ => False
  | _, some ns => k (.d (.bl (f ns))) e1
  | _, none => False
theorem cd_bls {f : List Bool → Bool} : CallD X (fun vs H Q => ∃ (a : Addr) (bs : List Bool), vs = [V.ref a] ∧ SqL X.K H a (bs.map V.bl) ∧ Q (.bl (f bs)) H) (s1 (kBls f)) := calld1 fun z stk vs env σ H Q k w v ok r u q => by
  obtain ⟨kd, xs, e1, a, us, ea, sa, la, r1, hk⟩ := r.rowD u
  cases e : blsOf xs with
  | none => cases kd <;> (simp only [e] at hk)
  | some ns =>
    have ex := blsOf_eq e
    obtain ⟨G, rg, rp⟩ := r1.ds la
    rw [ex] at rp
    have eu := reps_bls rp
    subst eu
    cases kd with
    | l => simp only [e] at hk; exact ⟨a, ns, by rw [ea], ok.k ▸ SqL.of sa, q _ _ _ _ (RelG.r rg).pushBl hk⟩
    | r => simp only [e] at hk; exact ⟨a, ns, by rw [ea], ok.k ▸ sa, q _ _ _ _ (RelG.r rg).pushBl hk⟩
    | t => exact hk.elim
/-! isinstance, of a built-in class -/
def tyN : W → Option String
  | .d .non => some "NoneType"
  | .d (.bl _) => some "bool"
  | .d (.int _) => some "int"
  | .d (.str _) => some "str"
  | .d (.lst _) => some "list"
  | .d (.klst _) => some "list"
  | .d (.tup _) => some "tuple"
  | .d (.dct _) => some "dict"
  | .ol _ => some "list"
  | .ot _ => some "tuple"
  | .od _ => some "dict"
  | _ => none
theorem tyX_seq {K : PySem.W.Frag} {H : Hp} {a : Addr} {us : List V} {kd : SeqK} (h : SqK K H a us kd) : TyX K H (.ref a) (.type (match kd with | .t => "tuple" | _ => "list")) := by
  cases kd with
  | l => exact .base (.lst h)
  | r =>
    rcases h with (h | ⟨o, h⟩) | ⟨o, its, n, hk, hc, _⟩
    · exact .base (.lst h)
    · exact .base (.frz h)
    · exact .kList hk hc
  | t =>
    rcases h with (h | ⟨o, h⟩) | ⟨o, its, n, hk, hc, _⟩
    · exact .base (.tup h)
    · exact .fTuple h
    · exact .kTuple hk hc
theorem rd_tyX {z : Z} {H : Hp} {w : W} {v : V} {n : String} (h : Rd1 z H w v) (t : tyN w = some n) : TyX z.K H v (.type n) := by
  cases w with
  | d x =>
    cases x with
    | non => cases t; cases rd_non h; exact .base .non
    | bl _ => cases t; cases rd_bl h; exact .base (.bl _)
    | int _ => cases t; cases rd_int h; exact .base (.int _)
    | str _ => cases t; cases rd_str h; exact .base (.str _)
    | lst _ => cases t; obtain ⟨a, us, q, s, _⟩ := h.seq rfl; subst q; exact tyX_seq s
    | klst _ => cases t; obtain ⟨a, us, q, s, _⟩ := h.seq rfl; subst q; exact tyX_seq s
    | tup _ => cases t; obtain ⟨a, us, q, s, _⟩ := h.seq rfl; subst q; exact tyX_seq s
    | dct _ => cases t; obtain ⟨G, _, g, _, a, us, q, s, _⟩ := h; subst q; exact .base (.dK (g _ _ s))
    | _ => cases t
  | ol _ => cases t; obtain ⟨a, us, q, s, _⟩ := h.seq rfl; subst q; exact tyX_seq s
  | ot _ => cases t; obtain ⟨a, us, q, s, _⟩ := h.seq rfl; subst q; exact tyX_seq s
  | od _ => cases t; obtain ⟨G, _, g, a, us, _, q, _, s, _⟩ := h; subst q; exact .base (.dK s)
  | _ => cases t
def kIsi (w w2 : W) (env : Env) (k : DK) : Prop := match (peek env w).bind tyN, peek env w2 with
  | some t, some (.d (.ty c)) => match kitB t c with
    | some b => k (.d (.bl b)) env
    | none => False
  | _, _ => False
theorem cd_isi : CallD X (rIsi X.K) (s2 kIsi) := calld2 fun z stk vs env σ H Q k w v w2 v2 ok r u q => by
  unfold kIsi at u
  split at u
  · rename_i t c h1 h2
    split at u
    · rename_i b hb
      cases h3 : peek env w with
      | none => rw [h3] at h1; cases h1
      | some a =>
        rw [h3] at h1
        have e2 : v2 = .ty c := let ⟨_, _, _, _, q⟩ := r.pop.look h2; q
        subst e2
        exact ⟨v, .ty c, .type t, .type c, b, rfl, .ty c, ok.k ▸ rd_tyX (r.look h3) h1, kit_ty hb, q _ _ _ _ r.pop.pop.pushBl u⟩
    · exact u.elim
  · exact u.elim
end
end DL

/-! DL10: methods of built-in classes; lists that are changed. -/
namespace DL
open PySem PySem.Spec
open PyProof.Rows L2
/-! changing an owned list -/
section
variable {z : Z} {stk : List W} {vs : List V} {env : Env} {σ : St} {H : Hp} {w : W} {v : V}
theorem repws_snoc {G : Hp} : ∀ {ws : List W} {us : List V} {as bs : List Addr} {w : W} {v : V}, RepWs z G H ws us as → RepW z G H w v bs → RepWs z G H (ws ++ [w]) (us ++ [v]) (as ++ bs)
  | [], _, _, bs, w, v, ⟨q, q2⟩, r => by subst q q2; exact ⟨v, [], bs, [], rfl, by simp, r, rfl, rfl⟩
  | _ :: _, _, _, _, _, _, ⟨v0, vs, a1, a2, q, q2, r, r2⟩, r' => by subst q q2; exact ⟨v0, _, a1, _, rfl, by rw [List.append_assoc], r, repws_snoc r2 r'⟩
theorem repws_set {G : Hp} : ∀ {ws : List W} {us : List V} {as : List Addr} {j : Nat}, RepWs z G H ws us as → j < ws.length → ∃ a1 aj a2, as = a1 ++ (aj ++ a2) ∧ ∀ w v bs, RepW z G H w v bs → RepWs z G H (ws.set j w) (us.set j v) (a1 ++ (bs ++ a2))
  | [], _, _, _, _, h => absurd h (Nat.not_lt_zero _)
  | _ :: _, _, _, 0, ⟨v0, vs, a1, a2, q, q2, r, r2⟩, _ => by subst q q2; exact ⟨[], a1, a2, rfl, fun w v bs r' => ⟨v, vs, bs, a2, rfl, rfl, r', r2⟩⟩
  | _ :: _, _, _, j + 1, ⟨v0, vs, b1, b2, q, q2, r, r2⟩, h => by
    subst q q2
    obtain ⟨a1, aj, a2, e, f⟩ := repws_set (j := j) r2 (Nat.lt_of_succ_lt_succ h)
    subst e
    exact ⟨b1 ++ a1, aj, a2, by simp [List.append_assoc], fun w v bs r' => ⟨v0, _, b1, a1 ++ (bs ++ a2), rfl, by simp [List.append_assoc], r, f w v bs r'⟩⟩
theorem repws_init {G : Hp} : ∀ {ws : List W} {us : List V} {as : List Addr} {w : W}, RepWs z G H (ws ++ [w]) us as → ∃ us' v a1 a2, us = us' ++ [v] ∧ as = a1 ++ a2 ∧ RepWs z G H ws us' a1 ∧ RepW z G H w v a2
  | [], _, _, w, ⟨v, vs, a1, a2, q, q2, r, r2⟩ => by obtain ⟨e, e2⟩ := r2; subst q q2 e e2; exact ⟨[], v, [], a1, rfl, by simp, ⟨rfl, rfl⟩, r⟩
  | _ :: _, _, _, w, ⟨v, vs, a1, a2, q, q2, r, r2⟩ => by
    obtain ⟨us', v', b1, b2, e, e2, r3, r4⟩ := repws_init r2
    subst q q2 e e2
    exact ⟨v :: us', v', a1 ++ b1, b2, rfl, by rw [List.append_assoc], ⟨v, us', a1, b1, rfl, rfl, r, r3⟩, r4⟩
theorem core_upd2 {G : Hp} {a : Addr} {o o' : HO} (c : Core z G H) (ha : H a = some o) (hl : ∃ us, o = .lst us) (hg : G a = none) (how : z.Own a) (hop : z.op = false) : Core z G (upd H a o') := by
  obtain ⟨us, rfl⟩ := hl
  have ne : ∀ {b u}, G b = some u → b ≠ a := fun {b u} e h => by rw [h, hg] at e; cases e
  have h0 : z.H0 a = none := by
    rcases how with h | ⟨h, _⟩
    · exact h
    · rw [hop] at h; cases h
  refine ⟨c.g0, fun b u e => ?_, fun b u e n => ?_, c.fresh, c.sH, fun i hi dx hd => ?_, fun ho s hs => ?_⟩
  · rw [upd_ne (ne e)]; exact c.gh b u e
  · rw [upd_ne (fun h => by rw [h, h0] at e; cases e)]; exact c.keep b u e n
  · obtain ⟨ts, h1, h2⟩ := c.xd i hi dx hd
    exact ⟨ts, by rw [upd_ne (ne_of h1 ha (fun q => nomatch q))]; exact h1, h2⟩
  · have hn : s ≠ a := fun h => (c.sH s hs).2 (by rw [h]; exact h0)
    exact (c.sto ho s hs).of (upd_ne hn)
/-- THE RULE for an owned list in slot i: its place, its items; a new content made of its own items and a tree w on the stack -/
theorem Rel.mut {i : Nat} {ws : List W} (r : Rel z (w :: stk) (v :: vs) env σ H) (hi : env[i]? = some (some (.ol ws))) (ht : tree w = true) (hop : z.op = false) :
    ∃ a us, σ[i]? = some (some (.ref a)) ∧ H a = some (.lst us) ∧ us.length = ws.length ∧
      Rel z stk vs (env.set i (some (.ol (ws ++ [w])))) σ (upd H a (.lst (us ++ [v]))) ∧
      (∀ j, j < ws.length → Rel z stk vs (env.set i (some (.ol (ws.set j w)))) σ (upd H a (.lst (us.set j v)))) := by
  obtain ⟨G, as, bs, ⟨v', vs', a1, a2, q, q2, r1, r2⟩, re, nd, ow, c⟩ := r
  cases q; subst q2
  obtain ⟨v2, b1, bi, b2, e1, e2, ri, h4, _, _⟩ := re.at_ hi
  subst e2
  obtain ⟨a, us, as', ev, ea, ha, rw_⟩ := ri
  subst ev ea
  have l : us.length = ws.length := (repws_rds c.gh rw_).len
  have r1w := r1.w ht
  obtain ⟨hg, how⟩ := ow a (List.mem_append_right _ (List.mem_append_right _ (List.mem_append_left _ List.mem_cons_self)))
  -- nobody else stands at a
  have pm0 : List.Perm (a1 ++ a2 ++ (b1 ++ (a :: as' ++ b2))) (a :: (a1 ++ a2 ++ (b1 ++ (as' ++ b2)))) := by
    have := (List.perm_middle (a := a) (l₁ := a1 ++ a2 ++ b1) (l₂ := as' ++ b2))
    simpa [List.append_assoc] using this
  have nm := (List.nodup_cons.mp ((pm0.nodup_iff).mp nd))
  have agall : ∀ {o : HO}, Ag (a1 ++ a2 ++ (b1 ++ (as' ++ b2))) H (upd H a o) := fun {o} b m => upd_ne (fun h => nm.1 (h ▸ m))
  refine ⟨a, us, e1, ha, l, ?_, fun j hj => ?_⟩
  · have g : Ag (a1 ++ a2 ++ (b1 ++ (as' ++ b2))) H (upd H a (.lst (us ++ [v]))) := agall
    have gB : Ag (b1 ++ b2) H (upd H a (.lst (us ++ [v]))) := fun b m => g b (List.mem_append_right _ ((List.mem_append.mp m).elim (fun h => List.mem_append_left _ h) fun h => List.mem_append_right _ (List.mem_append_right _ h)))
    have ga : Ag as' H (upd H a (.lst (us ++ [v]))) := fun b m => g b (List.mem_append_right _ (List.mem_append_right _ (List.mem_append_left _ m)))
    refine ⟨G, a2, b1 ++ ((a :: (as' ++ a1)) ++ b2), r2.move Z.like_refl Z.sub_refl (Same.refl _) g.l.r, h4 G _ (.ol (ws ++ [w])) _ (Same.refl _) gB ⟨a, us ++ [v], as' ++ a1, rfl, rfl, upd_same, repws_snoc (rw_.move Z.like_refl Z.sub_refl (Same.refl _) ga) (r1w.move Z.like_refl Z.sub_refl (Same.refl _) g.l.l)⟩, ?_, fun b m => ow b ?_, core_upd2 c ha ⟨us, rfl⟩ hg how hop⟩
    · have pm : List.Perm (a :: (a1 ++ a2 ++ (b1 ++ (as' ++ b2)))) (a2 ++ (b1 ++ (a :: (as' ++ a1) ++ b2))) := by
        have p1 : List.Perm (a2 ++ (b1 ++ (a :: (as' ++ a1) ++ b2))) (a :: (a2 ++ (b1 ++ (as' ++ a1 ++ b2)))) := by
          have := (List.perm_middle (a := a) (l₁ := a2 ++ b1) (l₂ := as' ++ a1 ++ b2))
          simpa [List.append_assoc] using this
        refine (List.Perm.cons a ?_).trans p1.symm
        have p2 : List.Perm (a1 ++ (a2 ++ (b1 ++ (as' ++ b2)))) (a2 ++ (b1 ++ (as' ++ (a1 ++ b2)))) := by
          have h1 := List.perm_append_comm_assoc a1 (a2 ++ b1 ++ as') b2
          simpa [List.append_assoc] using h1
        simpa [List.append_assoc] using p2
      exact (pm.nodup_iff).mp ((pm0.nodup_iff).mp nd)
    · simp only [List.mem_append, List.mem_cons] at m ⊢
      rcases m with m | m | (m | m | m) | m <;> simp [m]
  · obtain ⟨c1, cj, c2, ec, fset⟩ := repws_set rw_ hj
    subst ec
    have g : Ag (a1 ++ a2 ++ (b1 ++ ((c1 ++ (cj ++ c2)) ++ b2))) H (upd H a (.lst (us.set j v))) := agall
    have gB : Ag (b1 ++ b2) H (upd H a (.lst (us.set j v))) := fun b m => g b (List.mem_append_right _ ((List.mem_append.mp m).elim (fun h => List.mem_append_left _ h) fun h => List.mem_append_right _ (List.mem_append_right _ h)))
    have r1m := r1w.move Z.like_refl Z.sub_refl (Same.refl G) g.l.l
    have ga : Ag (c1 ++ (cj ++ c2)) H (upd H a (.lst (us.set j v))) := fun b m => g b (List.mem_append_right _ (List.mem_append_right _ (List.mem_append_left _ m)))
    obtain ⟨d1, dj, d2, ed, fset2⟩ := repws_set (rw_.move Z.like_refl Z.sub_refl (Same.refl G) ga) hj
    have base : (a1 ++ a2 ++ (b1 ++ ((c1 ++ (cj ++ c2)) ++ b2))).Nodup := nm.2
    rw [ed] at base nm ow
    refine ⟨G, a2, b1 ++ ((a :: (d1 ++ (a1 ++ d2))) ++ b2), r2.move Z.like_refl Z.sub_refl (Same.refl _) g.l.r, h4 G _ (.ol (ws.set j w)) _ (Same.refl _) gB ⟨a, us.set j v, d1 ++ (a1 ++ d2), rfl, rfl, upd_same, fset2 w v a1 r1m⟩, ?_, fun b m => ow b ?_, core_upd2 c ha ⟨us, rfl⟩ hg how hop⟩
    · have sub : List.Sublist (a1 ++ a2 ++ (b1 ++ ((d1 ++ d2) ++ b2))) (a1 ++ a2 ++ (b1 ++ ((d1 ++ (dj ++ d2)) ++ b2))) := by
        refine List.Sublist.append_left (List.Sublist.append_left (List.Sublist.append_right (List.Sublist.append_left (List.sublist_append_right _ _) _) _) _) _
      have n1 : a ∉ a1 ++ a2 ++ (b1 ++ ((d1 ++ d2) ++ b2)) := fun m => nm.1 (sub.subset m)
      have n2 := nodup_sub sub base
      have pm : List.Perm (a :: (a1 ++ a2 ++ (b1 ++ ((d1 ++ d2) ++ b2)))) (a2 ++ (b1 ++ (a :: (d1 ++ (a1 ++ d2)) ++ b2))) := by
        have p1 : List.Perm (a2 ++ (b1 ++ (a :: (d1 ++ (a1 ++ d2)) ++ b2))) (a :: (a2 ++ (b1 ++ ((d1 ++ (a1 ++ d2)) ++ b2)))) := by
          have := (List.perm_middle (a := a) (l₁ := a2 ++ b1) (l₂ := (d1 ++ (a1 ++ d2)) ++ b2))
          simpa [List.append_assoc] using this
        refine (List.Perm.cons a ?_).trans p1.symm
        have h1 := List.perm_append_comm_assoc a1 (a2 ++ b1 ++ d1) (d2 ++ b2)
        simpa [List.append_assoc] using h1
      exact (pm.nodup_iff).mp (List.nodup_cons.mpr ⟨n1, n2⟩)
    · simp only [List.mem_append, List.mem_cons] at m ⊢
      rcases m with m | m | (m | m | m | m) | m <;> simp [m]
end
end DL
namespace DL
open PySem PySem.Spec
open PyProof.Rows L2
section
variable {z : Z} {stk : List W} {vs : List V} {env : Env} {σ : St} {H : Hp} {w : W} {v : V}
/-- the same for the store's list: its place, its items; a new content made of its own items and a tree w on the stack -/
theorem Rel.mutL {i : Nat} {ws : List W} (r : Rel z (w :: stk) (v :: vs) env σ H) (hi : env[i]? = some (some (.oL ws))) (ht : tree w = true) (hop : z.op = false) :
    ∃ a us, σ[i]? = some (some (.ref a)) ∧ H a = some (.lst us) ∧ us.length = ws.length ∧
      (∀ j, j < ws.length → Rel z stk vs (env.set i (some (.oL (ws.set j w)))) σ (upd H a (.lst (us.set j v)))) := by
  obtain ⟨G, as, bs, ⟨v', vs', a1, a2, q, q2, r1, r2⟩, re, nd, ow, c⟩ := r
  cases q; subst q2
  obtain ⟨v2, b1, bi, b2, e1, e2, ri, h4, _, _⟩ := re.at_ hi
  subst e2
  obtain ⟨a, us, as', pn, ev, ea, ha, rw_⟩ := ri
  subst ev ea
  have l : us.length = ws.length := (repws_rds c.gh rw_).len
  have r1w := r1.w ht
  obtain ⟨hg, how⟩ := ow a (List.mem_append_right _ (List.mem_append_right _ (List.mem_append_left _ List.mem_cons_self)))
  -- nobody else stands at a
  have pm0 : List.Perm (a1 ++ a2 ++ (b1 ++ (a :: as' ++ b2))) (a :: (a1 ++ a2 ++ (b1 ++ (as' ++ b2)))) := by
    have := (List.perm_middle (a := a) (l₁ := a1 ++ a2 ++ b1) (l₂ := as' ++ b2))
    simpa [List.append_assoc] using this
  have nm := (List.nodup_cons.mp ((pm0.nodup_iff).mp nd))
  have agall : ∀ {o : HO}, Ag (a1 ++ a2 ++ (b1 ++ (as' ++ b2))) H (upd H a o) := fun {o} b m => upd_ne (fun h => nm.1 (h ▸ m))
  refine ⟨a, us, e1, ha, l, fun j hj => ?_⟩
  obtain ⟨c1, cj, c2, ec, fset⟩ := repws_set rw_ hj
  subst ec
  have g : Ag (a1 ++ a2 ++ (b1 ++ ((c1 ++ (cj ++ c2)) ++ b2))) H (upd H a (.lst (us.set j v))) := agall
  have gB : Ag (b1 ++ b2) H (upd H a (.lst (us.set j v))) := fun b m => g b (List.mem_append_right _ ((List.mem_append.mp m).elim (fun h => List.mem_append_left _ h) fun h => List.mem_append_right _ (List.mem_append_right _ h)))
  have r1m := r1w.move Z.like_refl Z.sub_refl (Same.refl G) g.l.l
  have ga : Ag (c1 ++ (cj ++ c2)) H (upd H a (.lst (us.set j v))) := fun b m => g b (List.mem_append_right _ (List.mem_append_right _ (List.mem_append_left _ m)))
  obtain ⟨d1, dj, d2, ed, fset2⟩ := repws_set (rw_.move Z.like_refl Z.sub_refl (Same.refl G) ga) hj
  have base : (a1 ++ a2 ++ (b1 ++ ((c1 ++ (cj ++ c2)) ++ b2))).Nodup := nm.2
  rw [ed] at base nm ow
  refine ⟨G, a2, b1 ++ ((a :: (d1 ++ (a1 ++ d2))) ++ b2), r2.move Z.like_refl Z.sub_refl (Same.refl _) g.l.r, h4 G _ (.oL (ws.set j w)) _ (Same.refl _) gB ⟨a, us.set j v, d1 ++ (a1 ++ d2), pn, rfl, rfl, upd_same, fset2 w v a1 r1m⟩, ?_, fun b m => ow b ?_, core_upd2 c ha ⟨us, rfl⟩ hg how hop⟩
  · have sub : List.Sublist (a1 ++ a2 ++ (b1 ++ ((d1 ++ d2) ++ b2))) (a1 ++ a2 ++ (b1 ++ ((d1 ++ (dj ++ d2)) ++ b2))) := by
      refine List.Sublist.append_left (List.Sublist.append_left (List.Sublist.append_right (List.Sublist.append_left (List.sublist_append_right _ _) _) _) _) _
    have n1 : a ∉ a1 ++ a2 ++ (b1 ++ ((d1 ++ d2) ++ b2)) := fun m => nm.1 (sub.subset m)
    have n2 := nodup_sub sub base
    have pm : List.Perm (a :: (a1 ++ a2 ++ (b1 ++ ((d1 ++ d2) ++ b2)))) (a2 ++ (b1 ++ (a :: (d1 ++ (a1 ++ d2)) ++ b2))) := by
      have p1 : List.Perm (a2 ++ (b1 ++ (a :: (d1 ++ (a1 ++ d2)) ++ b2))) (a :: (a2 ++ (b1 ++ ((d1 ++ (a1 ++ d2)) ++ b2)))) := by
        have := (List.perm_middle (a := a) (l₁ := a2 ++ b1) (l₂ := (d1 ++ (a1 ++ d2)) ++ b2))
        simpa [List.append_assoc] using this
      refine (List.Perm.cons a ?_).trans p1.symm
      have h1 := List.perm_append_comm_assoc a1 (a2 ++ b1 ++ d1) (d2 ++ b2)
      simpa [List.append_assoc] using h1
    exact (pm.nodup_iff).mp (List.nodup_cons.mpr ⟨n1, n2⟩)
  · simp only [List.mem_append, List.mem_cons] at m ⊢
    rcases m with m | m | (m | m | m | m) | m <;> simp [m]
end
end DL
namespace DL
open PySem PySem.Spec
open PyProof.Rows L2
section
variable {z : Z} {stk : List W} {vs : List V} {env : Env} {σ : St} {H : Hp} {w : W} {v : V}
/-- an owned list gets data of the stack as its content -/
theorem Rel.repl {i : Nat} {ws : List W} {ys : List D} {ts : List V} (r : Rel z (ys.map .d ++ stk) (ts ++ vs) env σ H) (l : ts.length = ys.length) (hi : env[i]? = some (some (.ol ws))) (hop : z.op = false) :
    ∃ a us, σ[i]? = some (some (.ref a)) ∧ H a = some (.lst us) ∧ us.length = ws.length ∧ Rel z stk vs (env.set i (some (.ol (ys.map .d)))) σ (upd H a (.lst ts)) := by
  obtain ⟨G, ⟨as, bs, rs, re, nd, ow, c⟩, rp⟩ := r.ds l
  obtain ⟨v2, b1, bi, b2, e1, e2, ri, h4, _, _⟩ := re.at_ hi
  subst e2
  obtain ⟨a, us, as', ev, ea, ha, rw_⟩ := ri
  subst ev ea
  have lu : us.length = ws.length := (repws_rds c.gh rw_).len
  obtain ⟨hg, how⟩ := ow a (List.mem_append_right _ (List.mem_append_right _ (List.mem_append_left _ List.mem_cons_self)))
  have pm0 : List.Perm (as ++ (b1 ++ (a :: as' ++ b2))) (a :: (as ++ (b1 ++ (as' ++ b2)))) := by
    have := (List.perm_middle (a := a) (l₁ := as ++ b1) (l₂ := as' ++ b2))
    simpa [List.append_assoc] using this
  have nm := (List.nodup_cons.mp ((pm0.nodup_iff).mp nd))
  have g : Ag (as ++ (b1 ++ (as' ++ b2))) H (upd H a (.lst ts)) := fun b m => upd_ne (fun h => nm.1 (h ▸ m))
  have gB : Ag (b1 ++ b2) H (upd H a (.lst ts)) := fun b m => g b (List.mem_append_right _ ((List.mem_append.mp m).elim (fun h => List.mem_append_left _ h) fun h => List.mem_append_right _ (List.mem_append_right _ h)))
  refine ⟨a, us, e1, ha, lu, ⟨G, as, b1 ++ ([a] ++ b2), rs.move Z.like_refl Z.sub_refl (Same.refl _) g.l, h4 G _ (.ol (ys.map .d)) [a] (Same.refl _) gB ⟨a, ts, [], rfl, rfl, upd_same, reps_ws rp⟩, ?_, fun b m => ow b ?_, core_upd2 c ha ⟨us, rfl⟩ hg how hop⟩⟩
  · have sub : List.Sublist (as ++ (b1 ++ ([a] ++ b2))) (as ++ (b1 ++ (a :: as' ++ b2))) := by
      refine List.Sublist.append_left (List.Sublist.append_left ?_ _) _
      exact List.Sublist.cons_cons a (List.sublist_append_right _ _)
    exact nodup_sub sub nd
  · simp only [List.mem_append, List.mem_cons, List.singleton_append] at m ⊢
    rcases m with m | m | m | m <;> simp [m]
/-- the last item of an owned list comes onto the stack -/
theorem Rel.popL {i : Nat} {ws : List W} (r : Rel z stk vs env σ H) (hi : env[i]? = some (some (.ol (ws ++ [w])))) (hop : z.op = false) :
    ∃ a us u, σ[i]? = some (some (.ref a)) ∧ H a = some (.lst (us ++ [u])) ∧ Rel z (w :: stk) (u :: vs) (env.set i (some (.ol ws))) σ (upd H a (.lst us)) := by
  obtain ⟨G, as, bs, rs, re, nd, ow, c⟩ := r
  obtain ⟨v2, b1, bi, b2, e1, e2, ri, h4, _, _⟩ := re.at_ hi
  subst e2
  obtain ⟨a, us0, as', ev, ea, ha, rw_⟩ := ri
  obtain ⟨us, u, a1, a2, e3, e4, r3, r4⟩ := repws_init rw_
  subst ev ea e3 e4
  obtain ⟨hg, how⟩ := ow a (List.mem_append_right _ (List.mem_append_right _ (List.mem_append_left _ List.mem_cons_self)))
  have pm0 : List.Perm (as ++ (b1 ++ (a :: (a1 ++ a2) ++ b2))) (a :: (as ++ (b1 ++ ((a1 ++ a2) ++ b2)))) := by
    have := (List.perm_middle (a := a) (l₁ := as ++ b1) (l₂ := (a1 ++ a2) ++ b2))
    simpa [List.append_assoc] using this
  have nm := (List.nodup_cons.mp ((pm0.nodup_iff).mp nd))
  have g : Ag (as ++ (b1 ++ ((a1 ++ a2) ++ b2))) H (upd H a (.lst us)) := fun b m => upd_ne (fun h => nm.1 (h ▸ m))
  have gB : Ag (b1 ++ b2) H (upd H a (.lst us)) := fun b m => g b (List.mem_append_right _ ((List.mem_append.mp m).elim (fun h => List.mem_append_left _ h) fun h => List.mem_append_right _ (List.mem_append_right _ h)))
  have g1 : Ag a1 H (upd H a (.lst us)) := fun b m => g b (List.mem_append_right _ (List.mem_append_right _ (List.mem_append_left _ (List.mem_append_left _ m))))
  have g2 : Ag a2 H (upd H a (.lst us)) := fun b m => g b (List.mem_append_right _ (List.mem_append_right _ (List.mem_append_left _ (List.mem_append_right _ m))))
  refine ⟨a, us, u, e1, ha, ⟨G, a2 ++ as, b1 ++ (a :: a1 ++ b2), ⟨u, vs, a2, as, rfl, rfl, .of (r4.move Z.like_refl Z.sub_refl (Same.refl _) g2), rs.move Z.like_refl Z.sub_refl (Same.refl _) g.l⟩,
    h4 G _ (.ol ws) (a :: a1) (Same.refl _) gB ⟨a, us, a1, rfl, rfl, upd_same, r3.move Z.like_refl Z.sub_refl (Same.refl _) g1⟩, ?_, fun b m => ow b ?_, core_upd2 c ha ⟨_, rfl⟩ hg how hop⟩⟩
  · have pm : List.Perm (a :: (as ++ (b1 ++ ((a1 ++ a2) ++ b2)))) (a2 ++ as ++ (b1 ++ (a :: a1 ++ b2))) := by
      have p1 : List.Perm (a2 ++ as ++ (b1 ++ (a :: a1 ++ b2))) (a :: (a2 ++ as ++ (b1 ++ (a1 ++ b2)))) := by
        have := (List.perm_middle (a := a) (l₁ := a2 ++ as ++ b1) (l₂ := a1 ++ b2))
        simpa [List.append_assoc] using this
      refine (List.Perm.cons a ?_).trans p1.symm
      have h1 := (List.perm_append_comm_assoc (as ++ b1 ++ a1) a2 b2)
      simpa [List.append_assoc] using h1
    exact (pm.nodup_iff).mp ((pm0.nodup_iff).mp nd)
  · simp only [List.mem_append, List.mem_cons] at m ⊢
    rcases m with (m | m) | m | (m | m) | m <;> simp [m]
end
section
variable {X : Cx} {e a b c o : Expr} {ta tb tc to : DTE} {pos p apos : Pos} {es : List Expr} {tr : DTA} {x name : Str} {id T : String}
/-! methods by values -/
def isTy (T : String) (w : W) : Bool := decide ((match w with
  | .d (.str _) => some "str"
  | .d (.lst _) => some "list"
  | .d (.klst _) => some "list"
  | .ol _ => some "list"
  | .d (.dct _) => some "dict"
  | .od _ => some "dict"
  | _ => none) = some T)
def dBm (T : String) (s : W → DCl) (to : DTE) (tr : DTA) : DTE := fun env k kx => to env (fun wo e1 => (match peek e1 wo with | some a => isTy T a = true | none => False) ∧ tr e1 (fun ws e2 => s wo ws e2 k) kx) kx
def MtD (X : Cx) (r : V → List V → Hp → VK → Prop) (s : W → DCl) : Prop := ∀ z stk vs env σ H (Q : VK) (k : DK) wo vo ws us, Okz X z → Rel z (ws ++ wo :: stk) (us ++ vo :: vs) env σ H → us.length = ws.length → s wo ws env k →
  (∀ w env' v H', Rel z (w :: stk) (v :: vs) env' σ H' → k w env' → Q v H') → r vo us H Q
theorem isTy_v {z : Z} {H : Hp} {w : W} {v : V} (h : Rd1 z H w v) (t : isTy T w = true) : tyV z.K T v H := by
  have t := of_decide_eq_true t
  cases w with
  | d x =>
    cases x with
    | str s => cases t; cases rd_str h; exact rfl
    | lst _ => cases t; obtain ⟨a, us, q, s, _⟩ := h.seq rfl; subst q; exact .inl ⟨rfl, us, SqL.of s⟩
    | klst _ => cases t; obtain ⟨a, us, q, s, _⟩ := h.seq rfl; subst q; exact .inl ⟨rfl, us, s⟩
    | dct _ => cases t; obtain ⟨G, _, g, _, a, us, q, s, _⟩ := h; subst q; exact .inr (.inr (.inl ⟨rfl, .inl ⟨us, g _ _ s⟩⟩))
    | _ => cases t
  | ol _ => cases t; obtain ⟨a, us, q, s, _⟩ := h.seq rfl; subst q; exact .inl ⟨rfl, us, SqL.of s⟩
  | od _ => cases t; obtain ⟨G, _, g, a, us, _, q, _, s, _⟩ := h; subst q; exact .inr (.inr (.inl ⟨rfl, .inl ⟨us, s⟩⟩))
  | _ => cases t
theorem pls_few {es : List Expr} (h : Pls es) {pos : Pos} {env : PySem.Env} : (backTo pos (starEach es env)).all (fun x => !x.1) = true := by
  induction es with
  | nil => rfl
  | cons e es ih =>
    rw [(h e List.mem_cons_self).star es env]
    show (true && (backTo pos (starEach es env)).all (fun x => !x.1)) = true
    rw [ih fun x m => h x (List.mem_cons_of_mem _ m)]; rfl
theorem de_bm {r : V → List V → Hp → VK → Prop} {s : W → DCl} (pa : PlainAttrs T) (slot : Slot T name id) (hty : typeOf (.builtin id) = pure (.type "method_descriptor")) (hm : MtR X id r) (hd : MtD X r s)
    (hbase : attributeBase o name X.env (eval o X.env) = eval o X.env) (hline : (apos.endLine == pos.line) = true) (hlen : es.length < 20) (hp : Pls (e :: es)) (ho : DE X o to) (ha : DA X (e :: es) tr) :
    DE X (.Call (.Attribute o name apos) (e :: es) [] pos) (dBm T s to tr) := fun Wx tk => by
  obtain ⟨te1, p1, h1⟩ := ho Wx tk
  obtain ⟨te2, p2, h2⟩ := ha Wx tk
  have hfew : ((backTo pos (starEach (e :: es) X.env)).all (fun x => !x.1) && (backToKw pos (keywordEach [] X.env)).all (fun x => x.1.isSome) && decide ((e :: es).length + ([] : List Keyword).length + (if ([] : List Keyword).isEmpty then 0 else 1) < 30)) = true := by
    rw [pls_few hp]
    show (true && true && decide _) = true
    rw [decide_eq_true (by show es.length + 1 + 0 + 0 < 30; omega)]; rfl
  refine ⟨_, pe_bm pa slot hty hm p1 p2 hbase hfew hline (hp.hd.star _ _) hp.tl.any, fun z stk vs env σ H Q k kx ok r t q qx => ?_⟩
  refine h1 z stk vs env σ H _ _ kx ok r t (fun w env' v H' r1 k1 => ?_) qx
  obtain ⟨ht, k1⟩ := k1
  split at ht
  · rename_i a ha
    refine ⟨ok.k ▸ isTy_v (r1.look ha) ht, ?_⟩
    exact h2 z _ _ env' σ H' _ _ kx ok r1 k1 (fun ws env2 us H2 l r2 k2 => hd z stk vs env2 σ H2 Q k w v ws us ok r2 l k2 q) qx
  · exact ht.elim
theorem de_bm0 {r : V → List V → Hp → VK → Prop} {s : W → DCl} (pa : PlainAttrs T) (slot : Slot T name id) (hty : typeOf (.builtin id) = pure (.type "method_descriptor")) (hm : MtR X id r) (hd : MtD X r s)
    (hbase : attributeBase o name X.env (eval o X.env) = eval o X.env) (hline : (apos.endLine == pos.line) = true) (ho : DE X o to) :
    DE X (.Call (.Attribute o name apos) [] [] pos) (dBm T s to dNil) := fun Wx tk => by
  obtain ⟨te1, p1, h1⟩ := ho Wx tk
  refine ⟨_, pe_bm0 pa slot hty hm p1 hbase hline, fun z stk vs env σ H Q k kx ok r t q qx => ?_⟩
  refine h1 z stk vs env σ H _ _ kx ok r t (fun w env' v H' r1 k1 => ?_) qx
  obtain ⟨ht, k1⟩ := k1
  split at ht
  · rename_i a ha
    exact ⟨ok.k ▸ isTy_v (r1.look ha) ht, hd z stk vs env' σ H' Q k w v [] [] ok r1 rfl k1 q⟩
  · exact ht.elim
/-! lists that are changed -/
def mApp : W → DCl := fun wo ws env k => match wo, ws with
  | .at_ i, [w] => useW w env fun w' e1 => match e1[i]? with
    | some (some (.ol xs)) => xs.length < sizeLine ∧ k (.d .non) (e1.set i (some (.ol (xs ++ [w']))))
    | _ => False
  | _, _ => False
theorem at_v {z : Z} {stk : List W} {vs : List V} {env : Env} {σ : St} {H : Hp} {i : Nat} {v u : V} (r : Rel z (.at_ i :: stk) (v :: vs) env σ H) (h : σ[i]? = some (some u)) : v = u := by
  obtain ⟨G, as, bs, ⟨v', vs', a1, a2, q, q2, ⟨_, r1⟩, r2⟩, _⟩ := r
  cases q
  rw [h] at r1
  cases r1; rfl
theorem md_app : MtD X rAppend mApp := fun z stk vs env σ H Q k wo vo ws us ok r l u q => by
  unfold mApp at u
  split at u
  · rename_i i w
    cases us with
    | nil => cases l
    | cons v us =>
      cases us with
      | cons _ _ => cases l
      | nil =>
        obtain ⟨w', e1, t1, _, r1, u1⟩ := r.useW u
        split at u1
        · rename_i xs hx
          have rat := r1.pop
          obtain ⟨a, us, hs, ha, hl, r2, _⟩ := (Rel.pop (Rel.swap r1)).mut hx t1 ok.op
          have ev := at_v rat hs
          subst ev
          exact ⟨a, us, v, rfl, rfl, ha, by rw [hl]; exact u1.1, q _ _ _ _ r2.pushNon u1.2⟩
        · exact u1.elim
  · exact u.elim
/-- pop() -/
def mPop : W → DCl := fun wo ws env k => match wo, ws with
  | .at_ i, [] => match env[i]? with
    | some (some (.ol xs)) => match xs.getLast? with
      | some w => k w (env.set i (some (.ol xs.dropLast)))
      | none => False
    | _ => False
  | _, _ => False
theorem md_pop : MtD X rPop mPop := fun z stk vs env σ H Q k wo vo ws us ok r l u q => by
  unfold mPop at u
  split at u
  · rename_i i
    cases us with
    | cons _ _ => cases l
    | nil =>
      split at u
      · rename_i xs hx
        split at u
        · rename_i w hw
          have e : xs = xs.dropLast ++ [w] := by
            cases xs with
            | nil => cases hw
            | cons x xs =>
              rw [List.getLast?_eq_getLast (List.cons_ne_nil _ _)] at hw
              cases hw
              exact (List.dropLast_concat_getLast (List.cons_ne_nil x xs)).symm
          rw [e] at hx
          obtain ⟨a, us, uu, hs, ha, r2⟩ := (Rel.pop r).popL hx ok.op
          have ev := at_v r hs
          subst ev
          refine ⟨a, us ++ [uu], uu, rfl, rfl, ha, by simp, ?_⟩
          rw [List.dropLast_concat]
          exact q _ _ _ _ r2 u
        · exact u.elim
      · exact u.elim
  · exact u.elim
/-- extend(row) -/
def mExt : W → DCl := fun wo ws env k => match wo, ws with
  | .at_ i, [w] => rowD w env fun kd ys e1 => kd = .l ∧ match e1[i]? with
    | some (some (.ol xs)) => match dsOf xs with
      | some zs => zs.length + ys.length ≤ sizeLine ∧ k (.d .non) (e1.set i (some (.ol ((zs ++ ys).map .d))))
      | none => False
    | _ => False
  | _, _ => False
theorem md_ext : MtD X rExtend mExt := fun z stk vs env σ H Q k wo vo ws us ok r l u q => by
  unfold mExt at u
  split at u
  · rename_i i w
    cases us with
    | nil => cases l
    | cons v us =>
      cases us with
      | cons _ _ => cases l
      | nil =>
        obtain ⟨kd, ys, e1, b, ts, eb, sb, lb, r1, hkd, u1⟩ := r.rowD u
        subst hkd
        split at u1
        · rename_i xs hx
          split at u1
          · rename_i zs hz
            have ex := dsOf_eq hz
            subst ex
            -- the slot's own items, read
            have rat : Rel z (.at_ i :: (ys.map .d ++ stk)) (vo :: (ts ++ vs)) e1 σ H := Rel.up r1 (by rw [List.length_map]; exact lb)
            have pk : peek e1 (.at_ i) = some (.ol (zs.map .d)) := by
              show (match e1[i]? with | some (some w) => some w | _ => none) = _
              rw [hx]
            obtain ⟨G, rg⟩ := rat
            obtain ⟨as, rw0⟩ := RelG.view rg pk
            obtain ⟨a0, us0, _, ev0, _, ha0, rws0⟩ := rw0
            have rp0 := repws_ds rws0
            have r2 := RelG.r (RelG.push rg rp0)
            have l0 : us0.length = zs.length := repsLen rp0
            have r3 := Rel.pop (Rel.up (s1 := zs.map .d) (u1 := us0) r2 (by rw [List.length_map]; exact l0))
            have r4 : Rel z ((zs ++ ys).map .d ++ stk) ((us0 ++ ts) ++ vs) e1 σ H := by
              rw [List.map_append, List.append_assoc, List.append_assoc]; exact r3
            obtain ⟨a, us, hs, ha, hl, r5⟩ := r4.repl (by rw [List.length_append, List.length_append, l0, lb]) hx ok.op
            have ev := at_v (RelG.r rg) hs
            rw [ev0] at ev
            cases ev
            rw [ha0] at ha
            cases ha
            exact ⟨a0, b, us0, ts, ev0, by rw [eb], ha0, sb, by rw [l0, lb]; exact u1.1, q _ _ _ _ r5.pushNon u1.2⟩
          · exact u1.elim
        · exact u1.elim
  · exact u.elim
/-! texts -/
def pkS (w : W) (env : Env) : Option (List Nat) := match peek env w with
  | some (.d (.str s)) => some s
  | _ => none
theorem pkS_v {z : Z} {stk : List W} {vs : List V} {env : Env} {σ : St} {H : Hp} {w : W} {v : V} {s : List Nat} (r : Rel z (w :: stk) (v :: vs) env σ H) (h : pkS w env = some s) : v = .str ⟨s.toArray⟩ := by
  unfold pkS at h
  split at h
  · rename_i t h1
    cases h
    exact rd_str (r.look h1)
  · cases h
/-- s.m(t), the answer a number or a truth -/
def mS1 (f : Str → Str → D) : W → DCl := fun wo ws env k => match ws with
  | [w] => match pkS wo env, pkS w env with
    | some s, some t => k (.d (f ⟨s.toArray⟩ ⟨t.toArray⟩)) env
    | _, _ => False
  | _ => False
theorem md_s1 {f : Str → Str → D} {g : Str → Str → V} (hf : ∀ z a b, Fixed z (f a b) (g a b)) : MtD X (fun x xs H Q => ∃ a b, x = .str a ∧ xs = [.str b] ∧ Q (g a b) H) (mS1 f) := fun z stk vs env σ H Q k wo vo ws us ok r l u q => by
  unfold mS1 at u
  split at u
  · rename_i w
    cases us with
    | nil => cases l
    | cons v us =>
      cases us with
      | cons _ _ => cases l
      | nil =>
        split at u
        · rename_i s t h1 h2
          have e2 := pkS_v r h2
          have e1 := pkS_v (Rel.pop r) h1
          subst e1 e2
          exact ⟨_, _, rfl, rfl, q _ _ _ _ ((Rel.pop (Rel.pop r)).push fun G _ _ _ => hf z _ _ G) u⟩
        · exact u.elim
  · exact u.elim
def mS0 (f : Str → D) : W → DCl := fun wo ws env k => match ws with
  | [] => match pkS wo env with
    | some s => k (.d (f ⟨s.toArray⟩)) env
    | _ => False
  | _ => False
theorem md_s0 {f : Str → D} {g : Str → V} (hf : ∀ z a, Fixed z (f a) (g a)) : MtD X (fun x xs H Q => ∃ a, x = .str a ∧ xs = [] ∧ True ∧ Q (g a) H) (mS0 f) := fun z stk vs env σ H Q k wo vo ws us ok r l u q => by
  unfold mS0 at u
  split at u
  · cases us with
    | cons _ _ => cases l
    | nil =>
      split at u
      · rename_i s h1
        have e1 := pkS_v r h1
        subst e1
        exact ⟨_, rfl, rfl, trivial, q _ _ _ _ ((Rel.pop r).push fun G _ _ _ => hf z _ G) u⟩
      · exact u.elim
  · exact u.elim
def strsOf : List D → Option (List (List Nat))
  | [] => some []
  | .str s :: xs => (strsOf xs).map (s :: ·)
  | _ => none
theorem strsOf_eq : ∀ {xs : List D} {ns : List (List Nat)}, strsOf xs = some ns → xs = ns.map .str
  | [], _, h => by cases h; rfl
  | .str i :: xs, ns, h => by
    have h : (strsOf xs).map (i :: ·) = some ns := h
    cases e : strsOf xs with
    | none => rw [e] at h; cases h
    | some ys => rw [e] at h; cases h; rw [strsOf_eq e]; rfl
theorem strsOf_map : ∀ {ns : List (List Nat)}, strsOf (ns.map .str) = some ns
  | [] => rfl
  | x :: xs => by show (strsOf (xs.map .str)).map (x :: ·) = _; rw [strsOf_map]; rfl
def toS (s : List Nat) : Str := ⟨s.toArray⟩
theorem reps_strs {z : Z} {G : Hp} : ∀ {ns : List (List Nat)} {us : List V}, Reps z G (ns.map .str) us → us = (ns.map toS).map V.str
  | [], _, q => q
  | _ :: _, _, ⟨v, vs, q, r, r2⟩ => by subst q; rw [reps_strs r2]; cases r; rfl
theorem strs_reps {z : Z} {G : Hp} : ∀ {ns : List (List Nat)}, Reps z G (ns.map .str) ((ns.map toS).map V.str)
  | [] => rfl
  | _ :: _ => ⟨_, _, rfl, rfl, strs_reps⟩
theorem toS_cps (x : Str) : toS x.cps.toList = x := by cases x; rfl
/-- s.join(row) -/
def mJoin : W → DCl := fun wo ws env k => match ws with
  | [w] => match pkS wo env with
    | some s => rowD w env fun _ xs e1 => match strsOf xs with
      | some ys => (ys.map List.length).sum + ys.length * s.length ≤ 16777216 ∧ k (.d (.str (Txt.join (toS s) (ys.map toS)).cps.toList)) e1
      | none => False
    | none => False
  | _ => False
theorem md_join : MtD X (fun x xs H Q => ∃ a p, ∃ ys : List Str, x = .str a ∧ xs = [.ref p] ∧ (SqL X.K H p (ys.map V.str) ∨ SqT X.K H p (ys.map V.str)) ∧ (ys.map (·.length)).sum + ys.length * a.length ≤ 16777216 ∧ Q (.str (Txt.join a ys)) H) mJoin := fun z stk vs env σ H Q k wo vo ws us ok r l u q => by
  unfold mJoin at u
  split at u
  · rename_i w
    cases us with
    | nil => cases l
    | cons v us =>
      cases us with
      | cons _ _ => cases l
      | nil =>
        split at u
        · rename_i s h1
          have e1 := pkS_v (Rel.pop r) h1
          subst e1
          obtain ⟨kd, xs, e2, a, us, ea, sa, la, r1, hk⟩ := r.rowD u
          split at hk
          · rename_i ys hy
            have ex := strsOf_eq hy
            obtain ⟨G, rg, rp⟩ := r1.ds la
            rw [ex] at rp
            have eu := reps_strs rp
            subst eu ea
            refine ⟨_, a, ys.map toS, rfl, rfl, ok.k ▸ sqk_or sa, ?_, ?_⟩
            · have e : (ys.map toS).map (·.length) = ys.map List.length := by
                rw [List.map_map]; exact List.map_congr_left fun x _ => str_len x
              rw [e, List.length_map, str_len]; exact hk.1
            · have rr := (RelG.r rg).pop.pushStr (i := (Txt.join (toS s) (ys.map toS)).cps.toList)
              have e : (⟨(Txt.join (toS s) (ys.map toS)).cps.toList.toArray⟩ : Str) = Txt.join (toS s) (ys.map toS) := toS_cps _
              rw [e] at rr
              exact q _ _ _ _ rr hk.2
          · exact hk.elim
        · exact u.elim
  · exact u.elim
/-- s.split(t) -/
def mSplit : W → DCl := fun wo ws env k => match ws with
  | [w] => match pkS wo env, pkS w env with
    | some s, some t => t ≠ [] ∧ s.length + 2 ≤ sizeLine ∧ k (.ol (((Txt.split (toS s) (toS t)).map fun y => D.str y.cps.toList).map .d)) env
    | _, _ => False
  | _ => False
theorem md_split : MtD X (fun x xs H Q => ∃ a b, x = .str a ∧ xs = [.str b] ∧ (b.length == 0) = false ∧ a.length + 2 ≤ sizeLine ∧ rNewStrs (Txt.split a b) H Q) mSplit := fun z stk vs env σ H Q k wo vo ws us ok r l u q => by
  unfold mSplit at u
  split at u
  · rename_i w
    cases us with
    | nil => cases l
    | cons v us =>
      cases us with
      | cons _ _ => cases l
      | nil =>
        split at u
        · rename_i s t h1 h2
          have e2 := pkS_v r h2
          have e1 := pkS_v (Rel.pop r) h1
          subst e1 e2
          refine ⟨_, _, rfl, rfl, ?_, by rw [str_len]; exact u.2.1, fun p hp => ?_⟩
          · rw [str_len]
            cases t with
            | nil => exact absurd rfl u.1
            | cons _ _ => rfl
          · obtain ⟨G, rg⟩ := Rel.pop (Rel.pop r)
            have h3 : Reps z G (((Txt.split (toS s) (toS t)).map fun y => y.cps.toList).map D.str) ((((Txt.split (toS s) (toS t)).map fun y => y.cps.toList).map toS).map V.str) := strs_reps
            have e3 : ((Txt.split (toS s) (toS t)).map fun y => y.cps.toList).map toS = Txt.split (toS s) (toS t) := by
              rw [List.map_map]
              have : (toS ∘ fun y : Str => y.cps.toList) = id := funext fun y => toS_cps y
              rw [this, List.map_id]
            rw [e3, List.map_map] at h3
            have r2 := RelG.r (RelG.push rg h3)
            exact q _ _ _ _ (r2.newL (by rw [List.length_map, List.length_map, List.length_map]) all_tree hp ok.op) u.2.2
        · exact u.elim
  · exact u.elim
end
end DL

/-! DL11: what a for walks; targets; statements; loops; comprehensions. -/
namespace DL
open PySem PySem.Spec
open PyProof.Rows L2
def noat (w : W) : Bool := match w with
  | .at_ _ => false
  | _ => true
/-- the iterator J gives the items, while src stands on the stack -/
def GenOk (z : Z) (J : It) (items src : List W) (usrc : List V) : Prop := ∀ stk vs env σ H, Rel z (src ++ stk) (usrc ++ vs) env σ H → ∀ i, i ≤ items.length →
  (i = items.length → J.stop i H) ∧ ∀ w, items[i]? = some w → J.go i H ∧ ∀ x H', J.yld i H x H' → Rel z (w :: (src ++ stk)) (x :: (usrc ++ vs)) env σ H'
abbrev DTI := Env → (List W → Env → Prop) → XC → Prop
def DI (X : Cx) (tg iter : Expr) (t : DTI) : Prop := ∀ Wx, L2N.Takes X Wx → ∃ wi, PI X tg iter wi ∧ ∀ z stk vs env σ H (R : It → Hp → Prop) (k : List W → Env → Prop) (kx : XC), Okz X z → Rel z stk vs env σ H → t env k kx →
  (∀ items env' J H' src usrc, src.all noat = true → items.all tree = true → usrc.length = src.length → GenOk z J items src usrc → Rel z (src ++ stk) (usrc ++ vs) env' σ H' → k items env' → R J H') → (∀ x env' cls d H', RelX z x cls d env' σ H' → kx x env' → Wx cls d σ H') → wi σ H R
section
variable {X : Cx} {tg e a b c : Expr} {ta tb tc : DTE} {pos p : Pos} {es : List Expr} {tr : DTA} {x : Str}
theorem PI.or {w w' : TI} (h : PI X tg e w) (h' : PI X tg e w') : PI X tg e (fun σ H R => w σ H R ∨ w' σ H R) := ⟨fun pins s σ H R I q => q.elim (h.run pins s σ H R I) (h'.run pins s σ H R I)⟩
/-! a list, a tuple, a text -/
def dRow (ta : DTE) : DTI := fun env k kx => ta env (fun w e1 => useD w e1 fun x e2 => match x with
  | .lst xs => k (xs.map .d) e2
  | .klst xs => k (xs.map .d) e2
  | .tup xs => k (xs.map .d) e2
  | .str s => k (s.map fun c => .d (.str [c])) e2
  | _ => False) kx
theorem reps_at {z : Z} {G : Hp} : ∀ {xs : List D} {us : List V} {i : Nat} {x : D}, Reps z G xs us → xs[i]? = some x → ∃ u, us[i]? = some u ∧ Rep z G x u
  | [], _, _, _, _, e => by simp at e
  | x0 :: _, _, 0, x, ⟨v, vs', q, r, _⟩, e => by
    have e0 : x0 = x := by simpa using e
    subst q e0
    exact ⟨v, rfl, r⟩
  | _ :: _, _, i + 1, x, ⟨v, vs', q, _, r⟩, e => by
    subst q
    obtain ⟨u, h1, h2⟩ := reps_at (i := i) r (by simpa using e)
    exact ⟨u, by simpa using h1, h2⟩
theorem rep_top {z : Z} {G H : Hp} {stk : List W} {vs : List V} {env : Env} {σ : St} {x : D} {v : V} (r : RelG z G (.d x :: stk) (v :: vs) env σ H) : Rep z G x v := by
  obtain ⟨as, h⟩ := RelG.view r (w' := .d x) rfl
  exact h.2
theorem gen_list {z : Z} {x : D} {xs : List D} {a : Addr} (hx : ∀ G, Rep z G x (.ref a) → ∃ us, SqL z.K G a us ∧ Reps z G xs us) : GenOk z (Itl z.K a) (xs.map .d) [.d x] [.ref a] := fun stk vs env σ H r i hi => by
  obtain ⟨G, rg⟩ := r
  have c := RelG.core rg
  obtain ⟨us, sq, rp⟩ := hx G (rep_top rg)
  have l := repsLen rp
  have sH := c.gh.seq sq
  rw [List.length_map] at hi
  refine ⟨fun e => ⟨us, sH, by rw [List.length_map] at e; omega⟩, fun w hw => ?_⟩
  rw [List.getElem?_map] at hw
  cases e : xs[i]? with
  | none => rw [e] at hw; cases hw
  | some y =>
    rw [e] at hw
    cases hw
    obtain ⟨u, h1, h2⟩ := reps_at rp e
    refine ⟨⟨us, u, sH, h1⟩, fun x' H' hy => ?_⟩
    obtain ⟨eh, hy⟩ := hy
    subst eh
    have := hy us sH
    rw [h1] at this
    cases this
    exact RelG.r (RelG.push1 rg h2)
theorem gen_tup {z : Z} {xs : List D} {a : Addr} : GenOk z (Itt z.K a) (xs.map .d) [.d (.tup xs)] [.ref a] := fun stk vs env σ H r i hi => by
  obtain ⟨G, rg⟩ := r
  have c := RelG.core rg
  obtain ⟨a', us, ea, sq, rp⟩ := rep_top rg
  cases ea
  have l := repsLen rp
  have sH := Same.tup c.gh sq
  rw [List.length_map] at hi
  refine ⟨fun e => ⟨us, sH, by rw [List.length_map] at e; omega⟩, fun w hw => ?_⟩
  rw [List.getElem?_map] at hw
  cases e : xs[i]? with
  | none => rw [e] at hw; cases hw
  | some y =>
    rw [e] at hw
    cases hw
    obtain ⟨u, h1, h2⟩ := reps_at rp e
    refine ⟨⟨us, u, sH, h1⟩, fun x' H' hy => ?_⟩
    obtain ⟨eh, hy⟩ := hy
    subst eh
    have := hy us sH
    rw [h1] at this
    cases this
    exact RelG.r (RelG.push1 rg h2)
theorem gen_str {z : Z} {s : List Nat} : GenOk z (Its ⟨s.toArray⟩) (s.map fun c => .d (.str [c])) [] [] := fun stk vs env σ H r i hi => by
  rw [List.length_map] at hi
  have sz : (⟨s.toArray⟩ : Str).cps.size = s.length := by show s.toArray.size = _; simp
  refine ⟨fun e => by rw [List.length_map] at e; show (⟨s.toArray⟩ : Str).cps.size ≤ i; rw [sz]; omega, fun w hw => ?_⟩
  rw [List.getElem?_map] at hw
  cases e : s[i]? with
  | none => rw [e] at hw; cases hw
  | some y =>
    rw [e] at hw
    cases hw
    have hlt : i < s.length := (List.getElem?_eq_some_iff.mp e).1
    refine ⟨by show i < (⟨s.toArray⟩ : Str).cps.size; rw [sz]; exact hlt, fun x' H' hy => ?_⟩
    obtain ⟨eh, cc, hc, ex⟩ := hy
    subst eh ex
    have hc : s.toArray[i]? = some cc := hc
    rw [List.getElem?_toArray, e] at hc
    cases hc
    exact Rel.pushStr r
theorem all_tree2 {α : Type} {f : α → D} {xs : List α} : (xs.map fun x => W.d (f x)).all tree = true := by
  rw [List.all_map]; exact List.all_eq_true.mpr fun _ _ => rfl
/-- what a for over a value asks -/
def rowI (K : PySem.W.Frag) (v : V) (H : Hp) (R : It → Hp → Prop) : Prop := (∃ a, v = .ref a ∧ (∃ us, SqL K H a us) ∧ R (Itl K a) H) ∨ (∃ a, v = .ref a ∧ (∃ us, SqT K H a us) ∧ R (Itt K a) H) ∨ ∃ y, v = .str y ∧ R (Its y) H
def iRow (K : PySem.W.Frag) (te : TE) : TI := fun σ H R => te σ H fun v H1 => rowI K v H1 R
theorem pi_row {te : TE} (he : PE X e te) : PI X tg e (iRow X.K te) := ⟨fun pins s σ H R I h => thn (he.run pins s σ H _ I h) fun u t ⟨y, H1, J, ry, q⟩ => by
  rcases q with ⟨a, ey, ⟨us, sq⟩, q⟩ | ⟨a, ey, ⟨us, sq⟩, q⟩ | ⟨y, ey, q⟩
  · subst ey
    cases ry
    obtain ⟨its, _, pl, _⟩ := J.list sq
    exact wpAny_pyIter_list pl.isList (pi_one (tk := t.toks) J _ (turn_list a _) ⟨_, Heap.get?_push_size _ rfl, rfl, rfl⟩ q)
  · subst ey
    cases ry
    obtain ⟨its, _, pl, _⟩ := J.tuple sq
    exact wpAny_pyIter_tuple pl (pi_one (tk := t.toks) J _ (turn_tuple a _) ⟨_, Heap.get?_push_size _ rfl, rfl, rfl⟩ q)
  · subst ey
    obtain ⟨tt, eu⟩ := ry
    subst eu
    cases wide : y.cps.all (· < 128) with
    | false => exact wpAny_pyIter_wide wide (pi_one (tk := t.toks) J _ (turn_str _ y tt "str_iterator" (.inr rfl)) ⟨_, Heap.get?_push_size _ rfl, rfl, rfl⟩ q)
    | true => exact wpAny_pyIter_ascii wide (pi_one (tk := t.toks) J _ (turn_str _ y tt "str_ascii_iterator" (.inl rfl)) ⟨_, Heap.get?_push_size _ rfl, rfl, rfl⟩ q)⟩
theorem di_row (ha : DE X a ta) : DI X tg a (dRow ta) := fun Wx tk => by
  obtain ⟨te, p, h⟩ := ha Wx tk
  refine ⟨_, pi_row p, fun z stk vs env σ H R k kx ok r t q qx => ?_⟩
  refine h z stk vs env σ H _ _ kx ok r t (fun w env' v H' r1 k1 => ?_) qx
  obtain ⟨x, e2, r2, hk⟩ := r1.useD k1
  cases x with
  | lst xs =>
    obtain ⟨G, rg⟩ := r2
    obtain ⟨a, us, ev, sq, rp⟩ := rep_top rg
    subst ev
    exact .inl ⟨a, rfl, ⟨us, ok.k ▸ SqL.of ((RelG.core rg).gh _ _ sq)⟩, ok.k ▸ q _ e2 _ _ [.d (.lst xs)] [.ref a] rfl all_tree rfl (gen_list fun G h => by obtain ⟨b, us, e, s, r⟩ := h; cases e; exact ⟨us, SqL.of s, r⟩) (RelG.r rg) hk⟩
  | klst xs =>
    obtain ⟨G, rg⟩ := r2
    obtain ⟨a, us, ev, sq, rp⟩ := rep_top rg
    subst ev
    exact .inl ⟨a, rfl, ⟨us, ok.k ▸ (RelG.core rg).gh.seq sq⟩, ok.k ▸ q _ e2 _ _ [.d (.klst xs)] [.ref a] rfl all_tree rfl (gen_list fun G h => by obtain ⟨b, us, e, s, r⟩ := h; cases e; exact ⟨us, s, r⟩) (RelG.r rg) hk⟩
  | tup xs =>
    obtain ⟨G, rg⟩ := r2
    obtain ⟨a, us, ev, sq, rp⟩ := rep_top rg
    subst ev
    exact .inr (.inl ⟨a, rfl, ⟨us, ok.k ▸ Same.tup (RelG.core rg).gh sq⟩, ok.k ▸ q _ e2 _ _ [.d (.tup xs)] [.ref a] rfl all_tree rfl gen_tup (RelG.r rg) hk⟩)
  | str s =>
    have ev := rd_str (r2.look rfl)
    subst ev
    exact .inr (.inr ⟨_, rfl, q _ e2 _ _ [] [] rfl all_tree2 rfl gen_str (Rel.pop r2) hk⟩)
  | _ => exact hk.elim
/-! range -/
def rangeW (lo : Int) (n : Nat) : List W := (List.range n).map fun i => .d (.int (lo + (i : Nat)))
theorem gen_range {z : Z} {lo : Int} {n : Nat} : GenOk z (Itr lo n) (rangeW lo n) [] [] := fun stk vs env σ H r i hi => by
  have l : (rangeW lo n).length = n := by unfold rangeW; rw [List.length_map, List.length_range]
  rw [l] at hi
  refine ⟨fun e => by rw [l] at e; show n ≤ i; omega, fun w hw => ?_⟩
  unfold rangeW at hw
  rw [List.getElem?_map] at hw
  cases e : (List.range n)[i]? with
  | none => rw [e] at hw; cases hw
  | some y =>
    rw [e] at hw
    cases hw
    obtain ⟨h1, h2⟩ := List.getElem?_eq_some_iff.mp e
    rw [List.length_range] at h1
    rw [List.getElem_range] at h2
    subst h2
    refine ⟨h1, fun x' H' hy => ?_⟩
    obtain ⟨eh, ex⟩ := hy
    subst eh ex
    exact Rel.pushInt r
def RgOk (i : Int) : Prop := -(2 ^ 62) ≤ i ∧ i < 2 ^ 62
def dRng1 (ta : DTE) : DTI := fun env k kx => ta env (fun w e1 => match peek e1 w with
  | some (.d (.int n)) => RgOk n ∧ k (rangeW 0 n.toNat) e1
  | _ => False) kx
def dRng2 (ta tb : DTE) : DTI := fun env k kx => ta env (fun wa e1 => tb e1 (fun wb e2 => match peek e2 wa, peek e2 wb with
  | some (.d (.int i)), some (.d (.int j)) => RgOk i ∧ RgOk j ∧ k (rangeW i (j - i).toNat) e2
  | _, _ => False) kx) kx
theorem all_range {lo : Int} {n : Nat} : (rangeW lo n).all tree = true := by unfold rangeW; exact all_tree2
theorem di_rng1 (hg : Gl X "range") (hm : X.mg "range" = none) (hp : Pl a) (ha : DE X a ta) : DI X tg (.Call (.Name "range" p) [a] [] pos) (dRng1 ta) := fun Wx tk => by
  obtain ⟨te, p, h⟩ := ha Wx tk
  refine ⟨_, pi_range1 hg hm (pa_cons p pa_nil (hp.star _ _)) (hp.star _ _), fun z stk vs env σ H R k kx ok r t q qx => ?_⟩
  refine h z stk vs env σ H _ _ kx ok r t (fun w env' v H' r1 k1 => ?_) qx
  split at k1
  · rename_i n h1
    have e := rd_int (r1.look h1)
    subst e
    refine ⟨n, rfl, k1.1.1, k1.1.2, ?_⟩
    exact q (rangeW 0 n.toNat) env' (Itr 0 n.toNat) H' [] [] rfl all_range rfl gen_range r1.pop k1.2
  · exact k1.elim
theorem di_rng2 (hg : Gl X "range") (hm : X.mg "range" = none) (hp : Pl a) (hp2 : Pl b) (ha : DE X a ta) (hb : DE X b tb) : DI X tg (.Call (.Name "range" p) [a, b] [] pos) (dRng2 ta tb) := fun Wx tk => by
  obtain ⟨te1, p1, h1⟩ := ha Wx tk
  obtain ⟨te2, p2, h2⟩ := hb Wx tk
  refine ⟨_, pi_range2 hg hm (pa_cons p1 (pa_cons p2 pa_nil (hp2.star _ _)) (hp.star _ _)) ?_ (hp2.star _ _), fun z stk vs env σ H R k kx ok r t q qx => ?_⟩
  · rw [hp.star, hp2.star]; rfl
  refine h1 z stk vs env σ H _ _ kx ok r t (fun w env' v H' r1 k1 => ?_) qx
  refine h2 z _ _ env' σ H' _ _ kx ok r1 k1 (fun w2 env2 v2 H2 r2 k2 => ?_) qx
  split at k2
  · rename_i i j e1 e2
    have e2 := rd_int (r2.look e2)
    have e1 := rd_int (r2.look2 e1)
    subst e1 e2
    refine ⟨i, j, rfl, ⟨k2.1.1, k2.1.2, k2.2.1.1, k2.2.1.2⟩, ?_⟩
    exact q (rangeW i (j - i).toNat) env2 (Itr i (j - i).toNat) H2 [] [] rfl all_range rfl gen_range r2.pop.pop k2.2.2
  · exact k2.elim
/-! targets -/
abbrev DTG := W → Env → (Env → Prop) → XC → Prop
/-- the slots but those of sl are as they were -/
def Chg (sl : List Nat) (σ σ' : St) : Prop := σ'.length = σ.length ∧ ∀ i, i ∉ sl → σ'[i]? = σ[i]?
theorem Chg.refl {sl : List Nat} {σ : St} : Chg sl σ σ := ⟨rfl, fun _ _ => rfl⟩
theorem Chg.trans {sl sl' : List Nat} {σ σ' σ'' : St} (h : Chg sl σ σ') (h' : Chg sl' σ' σ'') : Chg (sl ++ sl') σ σ'' := ⟨h'.1.trans h.1, fun i m => (h'.2 i fun q => m (List.mem_append_right _ q)).trans (h.2 i fun q => m (List.mem_append_left _ q))⟩
theorem Chg.set {σ : St} {i : Nat} {o : Option V} : Chg [i] σ (σ.set i o) := ⟨List.length_set .., fun j m => List.getElem?_set_ne fun e => m (by simp [e])⟩
def DG (X : Cx) (tg : Expr) (sl : List Nat) (t : DTG) : Prop := ∀ Wx, L2N.Takes X Wx → ∃ g, PG X tg g ∧ ∀ z stk vs env σ H w v (Q : St → Hp → Prop) (k : Env → Prop) (kx : XC), Okz X z → stk.all noat = true → tree w = true → Rel z (w :: stk) (v :: vs) env σ H → t w env k kx →
  (∀ env' σ' H', Rel z stk vs env' σ' H' → Chg sl σ σ' → k env' → Q σ' H') → (∀ x env' cls d σ' H', RelX z x cls d env' σ' H' → kx x env' → Wx cls d σ' H') → g v σ H Q
abbrev DTGs := List W → Env → (Env → Prop) → XC → Prop
def DGs (X : Cx) (tgs : List Expr) (sl : List Nat) (t : DTGs) : Prop := ∀ Wx, L2N.Takes X Wx → ∃ g, PGs X tgs g ∧ ∀ z stk vs env σ H ws us (Q : St → Hp → Prop) (k : Env → Prop) (kx : XC), Okz X z → stk.all noat = true → ws.all tree = true → us.length = ws.length → Rel z (ws ++ stk) (us ++ vs) env σ H → t ws env k kx →
  (∀ env' σ' H', Rel z stk vs env' σ' H' → Chg sl σ σ' → k env' → Q σ' H') → (∀ x env' cls d σ' H', RelX z x cls d env' σ' H' → kx x env' → Wx cls d σ' H') → g us σ H Q
theorem RepT.set {z : Z} {G H : Hp} {σ σ' : St} {w : W} {v : V} {as : List Addr} (n : noat w = true) (h : RepT z G H σ w v as) : RepT z G H σ' w v as := by
  cases w <;> first | exact h | cases n
theorem RepSt.set {z : Z} {G H : Hp} {σ σ' : St} : ∀ {ws : List W} {vs : List V} {as : List Addr}, ws.all noat = true → RepSt z G H σ ws vs as → RepSt z G H σ' ws vs as
  | [], _, _, _, h => h
  | w :: ws, _, _, n, ⟨v, vs, a1, a2, q, q2, r, r2⟩ => by
    obtain ⟨n1, n2⟩ := band (show (noat w && ws.all noat) = true from n)
    exact ⟨v, vs, a1, a2, q, q2, r.set n1, RepSt.set n2 r2⟩
def gN (i : Nat) : DTG := fun w env k _ => i < env.length ∧ k (env.set i (some w))
theorem dg_name {i : Nat} {x : Str} (hN : X.N.Nodup) (hi : X.N[i]? = some x) (hx : Loc X.env.scope x) (hf : X.fn x = true ∨ X.env.scope.names.lookup x = some .local) : DG X (.Name x pos) [i] (gN i) := fun Wx tk => by
  refine ⟨_, pg_name hN hi hx hf, fun z stk vs env σ H w v Q k kx ok na tw r t q qx => ?_⟩
  refine q _ _ _ ?_ Chg.set t.2
  obtain ⟨G, as, bs, ⟨v', vs', a1, a2, e, e2, r1, r2⟩, re, nd, ow, c⟩ := r
  cases e; subst e2
  obtain ⟨b1, bi, b2, eb, f⟩ := re.put t.1
  subst eb
  refine ⟨G, a2, b1 ++ (a1 ++ b2), r2.set na, f w v a1 (r1.w tw), ?_, fun a m => ow a ?_, c⟩
  · have sub : List.Sublist (a2 ++ (b1 ++ b2)) (a2 ++ (b1 ++ (bi ++ b2))) := List.Sublist.append_left (List.Sublist.append_left (List.sublist_append_right _ _) _) _
    have nd1 : (a1 ++ (a2 ++ (b1 ++ b2))).Nodup := by
      rw [List.append_assoc] at nd
      exact nodup_sub (List.Sublist.append_left sub _) nd
    have pm : List.Perm (a1 ++ (a2 ++ (b1 ++ b2))) (a2 ++ (b1 ++ (a1 ++ b2))) := by
      have h1 := List.perm_append_comm_assoc a1 (a2 ++ b1) b2
      simpa [List.append_assoc] using h1
    exact (pm.nodup_iff).mp nd1
  · simp only [List.mem_append] at m ⊢
    rcases m with m | m | m | m <;> simp [m]
def gsNil : DTGs := fun ws env k _ => ws = [] ∧ k env
def gsCons (g : DTG) (gs : DTGs) : DTGs := fun ws env k kx => match ws with
  | w :: r => g w env (fun e1 => gs r e1 k kx) kx
  | [] => False
theorem dgs_nil : DGs X [] [] gsNil := fun Wx tk => ⟨_, pgs_nil, fun z stk vs env σ H ws us Q k kx ok na tw l r t q qx => by
  obtain ⟨e, hk⟩ := t
  subst e
  have e2 : us = [] := List.eq_nil_of_length_eq_zero l
  subst e2
  exact ⟨rfl, q _ _ _ r Chg.refl hk⟩⟩
theorem tree_noat {ws : List W} (h : ws.all tree = true) : ws.all noat = true := List.all_eq_true.mpr fun w m => by
  have := List.all_eq_true.mp h w m
  cases w <;> first | rfl | cases this
theorem dgs_cons {g : DTG} {gs : DTGs} {tgs : List Expr} {sl sl' : List Nat} (hg : DG X tg sl g) (hs : DGs X tgs sl' gs) (h1 : assignEach (tg :: tgs) X.env = (false, assign tg X.env) :: assignEach tgs X.env) : DGs X (tg :: tgs) (sl ++ sl') (gsCons g gs) := fun Wx tk => by
  obtain ⟨g1, p1, f1⟩ := hg Wx tk
  obtain ⟨g2, p2, f2⟩ := hs Wx tk
  refine ⟨_, pgs_cons p1 p2 (by rw [h1]; rfl), fun z stk vs env σ H ws us Q k kx ok na tw l r t q qx => ?_⟩
  cases ws with
  | nil => exact t.elim
  | cons w ws =>
    cases us with
    | nil => cases l
    | cons u us =>
      obtain ⟨t1, t2⟩ := band (show (tree w && ws.all tree) = true from tw)
      refine ⟨u, us, rfl, ?_⟩
      refine f1 z (ws ++ stk) (us ++ vs) env σ H w u _ _ kx ok ?_ t1 r t (fun env' σ' H' r1 ch k1 => ?_) qx
      · rw [List.all_append, tree_noat t2, na]; rfl
      · exact f2 z stk vs env' σ' H' ws us Q k kx ok na t2 (Nat.succ.inj l) r1 k1 (fun env2 σ2 H2 r2 ch2 k2 => q env2 σ2 H2 r2 (ch.trans ch2) k2) qx
end
end DL

/-! DL12: unpacking, statements, loops, comprehensions. -/
namespace DL
open PySem PySem.Spec
open PyProof.Rows L2
/-- a plain target -/
def TgPl (e : Expr) : Prop := ∀ es env, assignEach (e :: es) env = (false, assign e env) :: assignEach es env
def TgPls (es : List Expr) : Prop := ∀ e ∈ es, TgPl e
theorem TgPls.len {es : List Expr} (h : TgPls es) {env : PySem.Env} : (assignEach es env).length = es.length := by
  induction es with
  | nil => rfl
  | cons e es ih => rw [h e List.mem_cons_self es env]; exact congrArg Nat.succ (ih fun x m => h x (List.mem_cons_of_mem _ m))
theorem TgPls.idx {es : List Expr} (h : TgPls es) {env : PySem.Env} : (assignEach es env).findIdx? (·.1) = none := by
  induction es with
  | nil => rfl
  | cons e es ih =>
    rw [h e List.mem_cons_self es env, List.findIdx?_cons, ih fun x m => h x (List.mem_cons_of_mem _ m)]; rfl
section
variable {X : Cx} {tg e a b c : Expr} {ta tb tc : DTE} {pos p : Pos} {es : List Expr} {tr : DTA} {x : Str}
theorem PG.or {g g' : TG} (h : PG X tg g) (h' : PG X tg g') : PG X tg (fun v σ H Q => g v σ H Q ∨ g' v σ H Q) := ⟨fun pins s σ H v u Q I r q => q.elim (h.run pins s σ H v u Q I r) (h'.run pins s σ H v u Q I r)⟩
def gTp (n : Nat) (gs : DTGs) : DTG := fun w env k kx => match w with
  | .ot ws => ws.length = n ∧ gs ws env k kx
  | .ol ws => ws.length = n ∧ gs ws env k kx
  | .d x => match rowOf x with
    | some xs => xs.length = n ∧ gs (xs.map .d) env k kx
    | none => False
  | _ => False
theorem Rel.unrow {z : Z} {stk : List W} {vs : List V} {env : Env} {σ : St} {H : Hp} {w : W} {v : V} {kd : SeqK} {ws : List W} (r : Rel z (w :: stk) (v :: vs) env σ H) (tw : tree w = true) (h : seqW w = some (kd, ws)) :
    ∃ a us, v = .ref a ∧ SqK z.K H a us kd ∧ us.length = ws.length ∧ Rel z (ws ++ stk) (us ++ vs) env σ H := by
  obtain ⟨G, as, bs, ⟨v', vs', a1, a2, e, e2, r1, r2⟩, re, nd, ow, c⟩ := r
  cases e; subst e2
  have fin : ∀ {a : Addr} {us : List V} {as' : List Addr}, a1 = a :: as' → RepWs z G H ws us as' → ws.all tree = true → Rel z (ws ++ stk) (us ++ vs) env σ H := fun {a us as'} e rw_ tt => by
    subst e
    have toSt : ∀ {ws : List W} {us : List V} {as : List Addr}, RepWs z G H ws us as → RepSt z G H σ ws us as := by
      intro ws
      induction ws with
      | nil => intro us as h; exact h
      | cons w ws ih => intro us as h; obtain ⟨v, vs, b1, b2, q, q2, r, r2⟩ := h; exact ⟨v, vs, b1, b2, q, q2, .of r, ih r2⟩
    refine ⟨G, as' ++ a2, bs, (toSt rw_).app r2, re, ?_, fun b m => ow b ?_, c⟩
    · exact nodup_sub (List.sublist_cons_self _ _) nd
    · exact List.mem_cons_of_mem _ m
  have treeWs : ∀ {ws : List W} {us : List V} {as : List Addr}, RepWs z G H ws us as → ws.all tree = true := by
    intro ws
    induction ws with
    | nil => intro us as h; rfl
    | cons w ws ih =>
      intro us as h
      obtain ⟨v, vs, b1, b2, q, q2, r, r2⟩ := h
      have : tree w = true := by cases w <;> first | rfl | exact r.elim
      show (tree w && ws.all tree) = true
      rw [this, ih r2]; rfl
  cases w with
  | d x =>
    obtain ⟨q, r1⟩ := r1
    subst q
    have fd : ∀ {a : Addr} {us : List V} {xs : List D}, ws = xs.map .d → Reps z G xs us → us.length = ws.length ∧ Rel z (ws ++ stk) (us ++ vs) env σ H := fun {a us xs} e rp => by
      subst e
      refine ⟨by rw [List.length_map]; exact repsLen rp, ?_⟩
      exact RelG.r (RelG.push ⟨a2, bs, r2, re, nd, ow, c⟩ rp)
    cases x with
    | lst xs => cases h; obtain ⟨a, us, q, s, rp⟩ := r1; obtain ⟨l, r⟩ := fd (a := a) rfl rp; exact ⟨a, us, q, c.gh _ _ s, l, r⟩
    | klst xs => cases h; obtain ⟨a, us, q, s, rp⟩ := r1; obtain ⟨l, r⟩ := fd (a := a) rfl rp; exact ⟨a, us, q, c.gh.seq s, l, r⟩
    | tup xs => cases h; obtain ⟨a, us, q, s, rp⟩ := r1; obtain ⟨l, r⟩ := fd (a := a) rfl rp; exact ⟨a, us, q, Same.tup c.gh s, l, r⟩
    | cel xs => cases h; obtain ⟨_, a, us, q, s, rp⟩ := r1; obtain ⟨l, r⟩ := fd (a := a) rfl rp; exact ⟨a, us, q, c.gh _ _ s, l, r⟩
    | _ => cases h
  | ol ws => cases h; obtain ⟨a, us, as', q, q2, e, rw_⟩ := r1; exact ⟨a, us, q, e, (repws_rds c.gh rw_).len, fin q2 rw_ (treeWs rw_)⟩
  | oL ws => cases h; obtain ⟨a, us, as', _, q, q2, e, rw_⟩ := r1; exact ⟨a, us, q, e, (repws_rds c.gh rw_).len, fin q2 rw_ (treeWs rw_)⟩
  | ot ws => cases h; obtain ⟨a, us, as', q, q2, e, rw_⟩ := r1; exact ⟨a, us, q, SqT.of e, (repws_rds c.gh rw_).len, fin q2 rw_ (treeWs rw_)⟩
  | _ => cases h
theorem rel_tree {z : Z} {stk : List W} {vs : List V} {env : Env} {σ : St} {H : Hp} {w : W} {v : V} {kd : SeqK} {ws : List W} (r : Rel z (w :: stk) (v :: vs) env σ H) (tw : tree w = true) (h : seqW w = some (kd, ws)) : ws.all tree = true := by
  obtain ⟨G, as, bs, ⟨v', vs', a1, a2, e, e2, r1, r2⟩, re, nd, ow, c⟩ := r
  have treeWs : ∀ {ws : List W} {us : List V} {as : List Addr}, RepWs z G H ws us as → ws.all tree = true := by
    intro ws
    induction ws with
    | nil => intro us as h; rfl
    | cons w ws ih =>
      intro us as h
      obtain ⟨v, vs, b1, b2, q, q2, r, r2⟩ := h
      have : tree w = true := by cases w <;> first | rfl | exact r.elim
      show (tree w && ws.all tree) = true
      rw [this, ih r2]; rfl
  obtain ⟨_, _, _, _, _, _, rws⟩ := (r1.w tw).row c.gh h
  exact treeWs rws
theorem dg_tup {kk : Nat} {gs : DTGs} {sl : List Nat} (hc : X.calm = true) (hp : TgPls es) (hg : DGs X es sl gs) : DG X (.Tuple es kk pos) sl (gTp es.length gs) := fun Wx tk => by
  obtain ⟨g, p, f⟩ := hg Wx tk
  refine ⟨_, PG.or (pg_tup hc p hp.len hp.idx) (pg_unl hc p hp.len hp.idx), fun z stk vs env σ H w v Q k kx ok na tw r t q qx => ?_⟩
  have go : ∀ {kd : SeqK} {ws : List W}, seqW w = some (kd, ws) → ws.length = es.length → gs ws env k kx → (gTup X.K es.length g v σ H Q ∨ gUnl X.K es.length g v σ H Q) := fun {kd ws} h1 h2 h3 => by
    have tt := rel_tree r tw h1
    obtain ⟨a, us, ev, sq, l, r2⟩ := r.unrow tw h1
    have hh := f z stk vs env σ H ws us Q k kx ok na tt l r2 h3 q qx
    cases kd with
    | l => exact .inr ⟨a, us, ev, ok.k ▸ SqL.of sq, l.trans h2, hh⟩
    | r => exact .inr ⟨a, us, ev, ok.k ▸ sq, l.trans h2, hh⟩
    | t => exact .inl ⟨a, us, ev, ok.k ▸ sq, l.trans h2, hh⟩
  unfold gTp at t
  split at t
  · exact go rfl t.1 t.2
  · exact go rfl t.1 t.2
  · rename_i x
    split at t
    · rename_i xs hx
      obtain ⟨kd, es⟩ := seqW_row hx
      exact go es (by rw [List.length_map]; exact t.1) t.2
    · exact t.elim
  · exact t.elim
/-! statements -/
structure DEnds where
  nx : Env → Prop
  rt : W → Env → Prop
  bk : Env → Prop := fun _ => False
  ct : Env → Prop := fun _ => False
abbrev DTS := DEnds → XC → Env → Prop
structure EndsOk (z : Z) (stk : List W) (vs : List V) (E : DEnds) (kx : XC) (D : Ends) (Wx : WX) : Prop where
  nx : ∀ env σ H, Rel z stk vs env σ H → E.nx env → D.nx σ H
  rt : ∀ w env v σ H, Rel z (w :: stk) (v :: vs) env σ H → E.rt w env → D.rt v H
  bk : ∀ env σ H, Rel z stk vs env σ H → E.bk env → D.bk σ H
  ct : ∀ env σ H, Rel z stk vs env σ H → E.ct env → D.ct σ H
  x : ∀ x env cls d σ H, RelX z x cls d env σ H → kx x env → Wx cls d σ H
def DS (X : Cx) (st : Stmt) (t : DTS) : Prop := ∀ Wx, L2N.Takes X Wx → ∃ ts, PS X st ts ∧ ∀ z stk vs env σ H (D : Ends) (E : DEnds) (kx : XC), Okz X z → stk.all noat = true → Rel z stk vs env σ H → t E kx env → EndsOk z stk vs E kx D Wx → ts D σ H
def DSs (X : Cx) (st : List Stmt) (t : DTS) : Prop := ∀ Wx, L2N.Takes X Wx → ∃ ts, PSs X st ts ∧ ∀ z stk vs env σ H (D : Ends) (E : DEnds) (kx : XC), Okz X z → stk.all noat = true → Rel z stk vs env σ H → t E kx env → EndsOk z stk vs E kx D Wx → ts D σ H
variable {st : Stmt} {rest : List Stmt} {t u : DTS}
def dNext : DTS := fun E _ env => E.nx env
def dSeq (t u : DTS) : DTS := fun E kx env => t { E with nx := fun e1 => u E kx e1 } kx env
theorem dss_nil : DSs X [] dNext := fun Wx tk => ⟨_, pss_nil, fun z stk vs env σ H D E kx ok na r h q => q.nx _ _ _ r h⟩
theorem dss_cons (h1 : DS X st t) (h2 : DSs X rest u) : DSs X (st :: rest) (dSeq t u) := fun Wx tk => by
  obtain ⟨t1, p1, f1⟩ := h1 Wx tk
  obtain ⟨t2, p2, f2⟩ := h2 Wx tk
  refine ⟨_, pss_cons p1 p2, fun z stk vs env σ H D E kx ok na r h q => f1 z stk vs env σ H _ { E with nx := fun e1 => u E kx e1 } kx ok na r h ⟨fun env' σ' H' r1 k1 => ?_, q.rt, q.bk, q.ct, q.x⟩⟩
  exact f2 z stk vs env' σ' H' D E kx ok na r1 k1 q
theorem dss_one (h1 : DS X st t) : DSs X [st] t := fun Wx tk => let ⟨_, p, f⟩ := h1 Wx tk; ⟨_, pss_one p, f⟩
theorem ds_pass : DS X (.Pass pos) dNext := fun Wx tk => ⟨_, ps_pass, fun z stk vs env σ H D E kx ok na r h q => q.nx _ _ _ r h⟩
def dBrk : DTS := fun E _ env => E.bk env
def dCnt : DTS := fun E _ env => E.ct env
theorem ds_brk : DS X (.Break pos) dBrk := fun Wx tk => ⟨_, ps_break, fun z stk vs env σ H D E kx ok na r h q => q.bk _ _ _ r h⟩
theorem ds_cnt : DS X (.Continue pos) dCnt := fun Wx tk => ⟨_, ps_continue, fun z stk vs env σ H D E kx ok na r h q => q.ct _ _ _ r h⟩
def dDrop (ta : DTE) : DTS := fun E kx env => ta env (fun _ e1 => E.nx e1) kx
theorem ds_expr (hs : swapsWith e none pos.line X.env = pure false) (he : DE X e ta) : DS X (.Expr e pos) (dDrop ta) := fun Wx tk => by
  obtain ⟨te, p, f⟩ := he Wx tk
  exact ⟨_, ps_expr p hs, fun z stk vs env σ H D E kx ok na r h q => f z stk vs env σ H _ _ kx ok r h (fun w env' v H' r1 k1 => q.nx _ _ _ r1.pop k1) fun x env' cls d H' => q.x x env' cls d σ H'⟩
def dRet (ta : DTE) : DTS := fun E kx env => ta env (fun w e1 => E.rt w e1) kx
theorem ds_ret (he : DE X e ta) : DS X (.Return (some e) pos) (dRet ta) := fun Wx tk => by
  obtain ⟨te, p, f⟩ := he Wx tk
  exact ⟨_, ps_ret p, fun z stk vs env σ H D E kx ok na r h q => f z stk vs env σ H _ _ kx ok r h (fun w env' v H' r1 k1 => q.rt _ _ _ _ _ r1 k1) fun x env' cls d H' => q.x x env' cls d σ H'⟩
def dRetN : DTS := fun E _ env => E.rt (.d .non) env
theorem ds_retN : DS X (.Return none pos) dRetN := fun Wx tk => ⟨_, ps_retN, fun z stk vs env σ H D E kx ok na r h q => q.rt _ _ _ _ _ r.pushNon h⟩
def dIf (sa : DTT) (t u : DTS) : DTS := fun E kx env => sa env (fun c e1 => if c = true then t E kx e1 else u E kx e1) kx
theorem ds_if {sa : DTT} {ss rs : List Stmt} (hc : DT X c sa) (ha : DSs X ss t) (hb : DSs X rs u) : DS X (.If c ss rs pos) (dIf sa t u) := fun Wx tk => by
  obtain ⟨t0, p0, f0⟩ := hc Wx tk
  obtain ⟨t1, p1, f1⟩ := ha Wx tk
  obtain ⟨t2, p2, f2⟩ := hb Wx tk
  refine ⟨_, ps_if p0 p1 p2, fun z stk vs env σ H D E kx ok na r h q => f0 z stk vs env σ H _ _ kx ok r h (fun c env' H' r1 k1 => ?_) fun x env' cls d H' => q.x x env' cls d σ H'⟩
  cases c with
  | true => exact f1 z stk vs env' σ H' D E kx ok na r1 k1 q
  | false => exact f2 z stk vs env' σ H' D E kx ok na r1 k1 q
/-! assignment: what is stored is taken first -/
def dAsg (ta : DTE) (g : DTG) : DTS := fun E kx env => ta env (fun w e1 => useW w e1 fun w' e2 => g w' e2 E.nx kx) kx
theorem ds_asg {g : DTG} {sl : List Nat} (hs : swapsWithSole [tg] e pos.line X.env = pure false) (hw : swappedStores [tg] e X.env = pure none) (h1 : TgPl tg) (he : DE X e ta) (hg : DG X tg sl g) : DS X (.Assign [tg] e pos) (dAsg ta g) := fun Wx tk => by
  obtain ⟨te, p, f⟩ := he Wx tk
  obtain ⟨tg', p2, f2⟩ := hg Wx tk
  refine ⟨_, ps_asg p p2 hs hw (by rw [h1]; rfl), fun z stk vs env σ H D E kx ok na r h q => f z stk vs env σ H _ _ kx ok r h (fun w env' v H' r1 k1 => ?_) fun x env' cls d H' => q.x x env' cls d σ H'⟩
  obtain ⟨w', e2, t2, _, r2, hk⟩ := r1.useW k1
  exact f2 z stk vs e2 σ H' w' v _ _ kx ok na t2 r2 hk (fun env' σ' H' r3 _ k3 => q.nx env' σ' H' r3 k3) q.x
/-! for -/
def forL (g : DTG) (body : DTS) (kx : XC) : List W → DEnds → Env → Prop
  | [], E, env => E.nx env
  | w :: r, E, env => g w env (fun e1 => body { E with nx := fun e2 => forL g body kx r E e2, ct := fun e2 => forL g body kx r E e2, bk := E.nx } kx e1) kx
def dFor (ti : DTI) (g : DTG) (body : DTS) : DTS := fun E kx env => ti env (fun items e1 => forL g body kx items E e1) kx
theorem ds_for {iter : Expr} {body : List Stmt} {ti : DTI} {g : DTG} {tb : DTS} {sl : List Nat} (hp : PassesOwn (model X.prog X.w) X.A X.env X.xe) (hc : X.calm = true) (hf : ∀ x, foldedSetIterable iter X.env x = pure x) (hi : DI X tg iter ti) (hg : DG X tg sl g) (hb : DSs X body tb) : DS X (.For tg iter body [] pos) (dFor ti g tb) := fun Wx tk => by
  obtain ⟨wi, p1, f1⟩ := hi Wx tk
  obtain ⟨g', p2, f2⟩ := hg Wx tk
  obtain ⟨tb', p3, f3⟩ := hb Wx tk
  refine ⟨_, ps_for hp hc p1 p2 p3 hf, fun z stk vs env σ H D E kx ok na r h q => f1 z stk vs env σ H _ _ kx ok r h (fun items env' J H' src usrc ns ts lsrc gen r1 k1 => ?_) fun x env' cls d H' => q.x x env' cls d σ H'⟩
  have ns' : (src ++ stk).all noat = true := by rw [List.all_append, ns, na]; rfl
  refine ⟨fun i m σ H => ∃ env, m = items.length - i ∧ i ≤ items.length ∧ Rel z (src ++ stk) (usrc ++ vs) env σ H ∧ forL g tb kx (items.drop i) E env, ⟨items.length, env', by omega, Nat.zero_le _, r1, k1⟩, fun i m σ2 H2 hW => ?_⟩
  obtain ⟨env2, em, hi, r2, k2⟩ := hW
  have gi := gen stk vs env2 σ2 H2 r2 i hi
  by_cases hlt : i < items.length
  · have hd : items.drop i = items[i] :: items.drop (i + 1) := List.drop_eq_getElem_cons hlt
    rw [hd] at k2
    obtain ⟨go, yld⟩ := gi.2 items[i] (List.getElem?_eq_getElem hlt)
    refine .inr ⟨go, fun σ3 H3 => ∃ env3, Rel z (src ++ stk) (usrc ++ vs) env3 σ3 H3 ∧ forL g tb kx (items.drop (i + 1)) E env3, fun σ3 H3 ⟨env3, r3, k3⟩ => ⟨items.length - (i + 1), by omega, env3, rfl, hlt, r3, k3⟩, fun x H3 hy => ?_⟩
    have r3 := yld x H3 hy
    have tw : tree items[i] = true := List.all_eq_true.mp ts _ (List.getElem_mem hlt)
    refine f2 z (src ++ stk) (usrc ++ vs) env2 σ2 H3 items[i] x _ _ kx ok ns' tw r3 k2 (fun env4 σ4 H4 r4 _ k4 => ?_) q.x
    refine f3 z (src ++ stk) (usrc ++ vs) env4 σ4 H4 _ _ kx ok ns' r4 k4 ⟨fun env5 σ5 H5 r5 k5 => ⟨env5, r5, k5⟩, fun w env5 v σ5 H5 r5 k5 => ?_, fun env5 σ5 H5 r5 k5 => ?_, fun env5 σ5 H5 r5 k5 => ⟨env5, r5, k5⟩, q.x⟩
    · have r6 : Rel z (src ++ w :: stk) (usrc ++ v :: vs) env5 σ5 H5 := Rel.down r5 lsrc
      exact q.rt w env5 v σ5 H5 (Rel.drop r6 lsrc) k5
    · exact q.nx env5 σ5 H5 (Rel.drop r5 lsrc) k5
  · have e : i = items.length := by omega
    subst e
    rw [List.drop_length] at k2
    exact .inl ⟨gi.1 rfl, q.nx env2 σ2 H2 (Rel.drop r2 lsrc) k2⟩
/-! while: an invariant that falls -/
def dWhile (sa : DTT) (body : DTS) : DTS := fun E kx env => ∃ I : Nat → Env → Prop, (∃ m, I m env) ∧ ∀ m env, I m env → sa env (fun c e1 => if c = true then body { E with nx := fun e2 => ∃ m', m' < m ∧ I m' e2, ct := fun e2 => ∃ m', m' < m ∧ I m' e2, bk := E.nx } kx e1 else E.nx e1) kx
theorem ds_while {sa : DTT} {body : List Stmt} {tb : DTS} (hp : PassesOwn (model X.prog X.w) X.A X.env X.xe) (hc : DT X c sa) (hb : DSs X body tb) : DS X (.While c body [] pos) (dWhile sa tb) := fun Wx tk => by
  obtain ⟨t0, p0, f0⟩ := hc Wx tk
  obtain ⟨tb', p3, f3⟩ := hb Wx tk
  refine ⟨_, ps_while hp p0 p3, fun z stk vs env σ H D E kx ok na r h q => ?_⟩
  obtain ⟨I, ⟨m0, i0⟩, step⟩ := h
  refine ⟨fun m σ H => ∃ env, I m env ∧ Rel z stk vs env σ H, ⟨m0, env, i0, r⟩, fun m σ2 H2 ⟨env2, i2, r2⟩ => ?_⟩
  refine f0 z stk vs env2 σ2 H2 _ _ kx ok r2 (step m env2 i2) (fun c env3 H3 r3 k3 => ?_) fun x env' cls d H' => q.x x env' cls d σ2 H'
  cases c with
  | false => exact q.nx env3 σ2 H3 r3 k3
  | true =>
    rw [if_pos rfl]
    rw [if_pos rfl] at k3
    refine ⟨fun σ4 H4 => ∃ env4 m', m' < m ∧ I m' env4 ∧ Rel z stk vs env4 σ4 H4, fun σ4 H4 ⟨env4, m', lt, i4, r4⟩ => ⟨m', lt, env4, i4, r4⟩, ?_⟩
    exact f3 z stk vs env3 σ2 H3 _ _ kx ok na r3 k3 ⟨fun env5 σ5 H5 r5 ⟨m', lt, i5⟩ => ⟨env5, m', lt, i5, r5⟩, q.rt, q.nx, fun env5 σ5 H5 r5 ⟨m', lt, i5⟩ => ⟨env5, m', lt, i5, r5⟩, q.x⟩
end
end DL

/-! DL13: comprehensions. -/
namespace DL
open PySem PySem.Spec
open PyProof.Rows L2
/-- the same place -/
structure Okz2 (K : PySem.W.Frag) (mg : Str → Option Value) (z : Z) : Prop where
  k : z.K = K
  m : z.mg = mg
  op : z.op = false
def kf : XC := fun _ _ => False
/-- the weakest readings, of K and mg alone -/
def teS (K : PySem.W.Frag) (mg : Str → Option Value) (t : DTE) : TE := fun σ H Q => ∃ z stk vs env k, Okz2 K mg z ∧ Rel z stk vs env σ H ∧ t env k kf ∧ ∀ w env' v H', Rel z (w :: stk) (v :: vs) env' σ H' → k w env' → Q v H'
def ttS (K : PySem.W.Frag) (mg : Str → Option Value) (t : DTT) : TT := fun σ H Q => ∃ z stk vs env k, Okz2 K mg z ∧ Rel z stk vs env σ H ∧ t env k kf ∧ ∀ b env' H', Rel z stk vs env' σ H' → k b env' → Q b H'
def tgS (K : PySem.W.Frag) (mg : Str → Option Value) (sl : List Nat) (t : DTG) : TG := fun v σ H Q => ∃ z stk vs env w k, Okz2 K mg z ∧ stk.all noat = true ∧ tree w = true ∧ Rel z (w :: stk) (v :: vs) env σ H ∧ t w env k kf ∧ ∀ env' σ' H', Rel z stk vs env' σ' H' → Chg sl σ σ' → k env' → Q σ' H'
theorem takesF {X : Cx} : L2N.Takes X (fun _ _ _ _ => False) := fun _ _ ⟨_, _, _, _, _, _, _, _, _, _, _, _, _, _, _, _, w⟩ => w.elim
section
variable {X : Cx} {tg e a b c : Expr} {ta tb tc te : DTE} {pos p : Pos} {es : List Expr} {x : Str}
theorem DE.star (h : DE X e te) : PE X e (teS X.K X.mg te) := by
  obtain ⟨t, p, f⟩ := h _ takesF
  exact ⟨fun pins s σ H Q I ⟨z, stk, vs, env, k, ok, r, ht, q⟩ => p.run pins s σ H Q I (f z stk vs env σ H Q k kf ⟨ok.k, ok.m, ok.op⟩ r ht q fun _ _ _ _ _ _ h => h)⟩
theorem DT.star {tt : DTT} (h : DT X e tt) : PT X e (ttS X.K X.mg tt) := by
  obtain ⟨t, p, f⟩ := h _ takesF
  exact ⟨fun pins s σ H Q I ⟨z, stk, vs, env, k, ok, r, ht, q⟩ => p.run pins s σ H Q I (f z stk vs env σ H Q k kf ⟨ok.k, ok.m, ok.op⟩ r ht q fun _ _ _ _ _ _ h => h)⟩
theorem DG.star {g : DTG} {sl : List Nat} (h : DG X tg sl g) : PG X tg (tgS X.K X.mg sl g) := by
  obtain ⟨t, p, f⟩ := h _ takesF
  exact ⟨fun pins s σ H v u Q I rv ⟨z, stk, vs, env, w, k, ok, na, tw, r, ht, q⟩ => p.run pins s σ H v u Q I rv (f z stk vs env σ H w v Q k kf ⟨ok.k, ok.m, ok.op⟩ na tw r ht q fun _ _ _ _ _ _ _ h => h)⟩
/-! slots wiped -/
def wipeE (env : Env) : List Nat → Env
  | [] => env
  | v :: vs => (wipeE env vs).set v none
theorem repe_none {z : Z} {G H : Hp} : ∀ {env : Env} {σ : St} {bs : List Addr} {i : Nat} {o : Option V}, RepE z G H env σ bs → ∃ bs', RepE z G H (env.set i none) (σ.set i o) bs' ∧ List.Sublist bs' bs
  | [], _, _, _, _, ⟨q, q2⟩ => by subst q q2; exact ⟨[], ⟨rfl, rfl⟩, List.Sublist.refl _⟩
  | none :: env, _, bs, 0, o, ⟨o', σ', q, r⟩ => by subst q; exact ⟨bs, ⟨o, σ', rfl, r⟩, List.Sublist.refl _⟩
  | some w :: env, _, _, 0, o, ⟨v, σ', a1, a2, q, q2, r, r2⟩ => by subst q q2; exact ⟨a2, ⟨o, σ', rfl, r2⟩, List.sublist_append_right _ _⟩
  | none :: env, _, bs, i + 1, o, ⟨o', σ', q, r⟩ => by
    subst q
    obtain ⟨bs', h1, h2⟩ := repe_none (i := i) (o := o) r
    exact ⟨bs', ⟨o', _, rfl, h1⟩, h2⟩
  | some w :: env, _, _, i + 1, o, ⟨v, σ', a1, a2, q, q2, r, r2⟩ => by
    subst q q2
    obtain ⟨bs', h1, h2⟩ := repe_none (i := i) (o := o) r2
    exact ⟨a1 ++ bs', ⟨v, _, a1, bs', rfl, rfl, r, h1⟩, List.Sublist.append_left h2 _⟩
theorem repe_wipe {z : Z} {G H : Hp} {env : Env} {σ : St} {bs : List Addr} (r : RepE z G H env σ bs) : ∀ vs, ∃ bs', RepE z G H (wipeE env vs) (wipe σ vs) bs' ∧ List.Sublist bs' bs
  | [] => ⟨bs, r, List.Sublist.refl _⟩
  | v :: vs => by
    obtain ⟨b1, h1, h2⟩ := repe_wipe r vs
    obtain ⟨b2, h3, h4⟩ := repe_none (i := v) (o := none) h1
    exact ⟨b2, h3, h4.trans h2⟩
/-- where the environment says nothing, the slots may hold anything -/
theorem repe_any {z : Z} {G H : Hp} : ∀ {env : Env} {σ σ' : St} {bs : List Addr}, RepE z G H env σ bs → σ'.length = σ.length → (∀ (i : Nat) (w : W), env[i]? = some (some w) → σ'[i]? = σ[i]?) → RepE z G H env σ' bs
  | [], _, σ', _, ⟨q, q2⟩, l, _ => by subst q q2; exact ⟨List.eq_nil_of_length_eq_zero l, rfl⟩
  | none :: env, _, σ', bs, ⟨o', σ1, q, r⟩, l, f => by
    subst q
    cases σ' with
    | nil => cases l
    | cons o σ' => exact ⟨o, σ', rfl, repe_any r (Nat.succ.inj l) fun i w h => by simpa using f (i + 1) w (by simpa using h)⟩
  | some w :: env, _, σ', _, ⟨v, σ1, a1, a2, q, q2, r, r2⟩, l, f => by
    subst q q2
    cases σ' with
    | nil => cases l
    | cons o σ' =>
      have h0 : o = some v := by simpa using f 0 w rfl
      subst h0
      exact ⟨v, σ', a1, a2, rfl, rfl, r, repe_any r2 (Nat.succ.inj l) fun i w h => by simpa using f (i + 1) w (by simpa using h)⟩
theorem wipeE_at : ∀ {vs : List Nat} {env : Env} {i : Nat} {w : W}, (wipeE env vs)[i]? = some (some w) → i ∉ vs ∧ env[i]? = some (some w)
  | [], _, _, _, h => ⟨by simp, h⟩
  | v :: vs, env, i, w, h => by
    have h : ((wipeE env vs).set v none)[i]? = some (some w) := h
    by_cases e : v = i
    · subst e
      rw [List.getElem?_set] at h
      split at h
      · split at h <;> cases h
      · contradiction
    · rw [List.getElem?_set_ne e] at h
      obtain ⟨h1, h2⟩ := wipeE_at h
      exact ⟨fun m => (List.mem_cons.mp m).elim (fun q => e q.symm) h1, h2⟩
theorem wipe_at : ∀ {vs : List Nat} {σ : St} {i : Nat}, i ∉ vs → (wipe σ vs)[i]? = σ[i]?
  | [], _, _, _ => rfl
  | v :: vs, σ, i, h => by
    show ((wipe σ vs).set v none)[i]? = _
    rw [List.getElem?_set_ne fun e => h (by rw [e]; exact List.mem_cons_self)]
    exact wipe_at fun m => h (List.mem_cons_of_mem _ m)
theorem wipe_in : ∀ {vs : List Nat} {σ : St} {i : Nat}, i ∈ vs → i < σ.length → (wipe σ vs)[i]? = some none
  | [], _, _, h, _ => nomatch h
  | v :: vs, σ, i, h, l => by
    show ((wipe σ vs).set v none)[i]? = _
    by_cases e : v = i
    · subst e
      rw [List.getElem?_set_self (by rw [wipe_length]; exact l)]
    · rw [List.getElem?_set_ne e]
      exact wipe_in ((List.mem_cons.mp h).elim (fun q => absurd q.symm e) id) l
theorem wipe_chg {sl vs : List Nat} {σ σ' : St} (c : Chg sl σ σ') (h : ∀ i ∈ sl, i ∈ vs) : wipe σ' vs = wipe σ vs := by
  refine List.ext_getElem? fun i => ?_
  by_cases m : i ∈ vs
  · by_cases l : i < σ.length
    · rw [wipe_in m l, wipe_in m (by rw [c.1]; exact l)]
    · have l2 : ¬ i < σ'.length := by rw [c.1]; exact l
      rw [List.getElem?_eq_none (by rw [wipe_length]; omega), List.getElem?_eq_none (by rw [wipe_length]; omega)]
  · rw [wipe_at m, wipe_at m]
    exact c.2 i fun q => m (h i q)
/-! the stack hidden: what slots hold is not told within -/
def hide : W → W
  | .at_ _ => .hole
  | w => w
theorem hide_noat {stk : List W} : (stk.map hide).all noat = true := by
  rw [List.all_map]
  exact List.all_eq_true.mpr fun w _ => by cases w <;> rfl
theorem rept_hide {z : Z} {G H : Hp} {σ σ' : St} {w : W} {v : V} {as : List Addr} (h : RepT z G H σ w v as) : RepT z G H σ' (hide w) v as := by
  cases w <;> first | exact h | exact h.1
theorem repst_hide {z : Z} {G H : Hp} {σ σ' : St} : ∀ {ws : List W} {vs : List V} {as : List Addr}, RepSt z G H σ ws vs as → RepSt z G H σ' (ws.map hide) vs as
  | [], _, _, h => h
  | _ :: _, _, _, ⟨v, vs, a1, a2, q, q2, r, r2⟩ => ⟨v, vs, a1, a2, q, q2, rept_hide r, repst_hide r2⟩
/-- which slots the stack means -/
def AtOk (σ : St) : List W → List V → Prop
  | [], _ => True
  | w :: ws, vs => ∃ v vs', vs = v :: vs' ∧ (∀ i, w = .at_ i → σ[i]? = some (some v)) ∧ AtOk σ ws vs'
theorem atok_of {z : Z} {G H : Hp} {σ : St} : ∀ {ws : List W} {vs : List V} {as : List Addr}, RepSt z G H σ ws vs as → AtOk σ ws vs
  | [], _, _, _ => trivial
  | _ :: _, _, _, ⟨v, vs, a1, a2, q, q2, r, r2⟩ => ⟨v, vs, q, fun i e => by subst e; exact r.2, atok_of r2⟩
theorem repst_show {z : Z} {G H : Hp} {σ σ' : St} : ∀ {ws : List W} {vs : List V} {as : List Addr}, AtOk σ ws vs → RepSt z G H σ' (ws.map hide) vs as → RepSt z G H σ ws vs as
  | [], _, _, _, h => h
  | w :: ws, _, _, ⟨v0, vs0, q0, f, g⟩, ⟨v, vs, a1, a2, q, q2, r, r2⟩ => by
    subst q0
    cases q
    refine ⟨_, _, a1, a2, rfl, q2, ?_, repst_show g r2⟩
    cases w with
    | at_ i => exact ⟨r, f i rfl⟩
    | _ => exact r
theorem nodup_r {as bs bs' : List Addr} (h : List.Sublist bs' bs) (n : (as ++ bs).Nodup) : (as ++ bs').Nodup := nodup_sub (List.Sublist.append_left h _) n
/-- into a block -/
theorem Rel.into {z : Z} {stk : List W} {us : List V} {env : Env} {σ : St} {H : Hp} (r : Rel z stk us env σ H) (vs : List Nat) : Rel z (stk.map hide) us (wipeE env vs) (wipe σ vs) H := by
  obtain ⟨G, as, bs, rs, re, nd, ow, c⟩ := r
  obtain ⟨bs', h1, h2⟩ := repe_wipe re vs
  exact ⟨G, as, bs', repst_hide rs, h1, nodup_r h2 nd, fun a m => ow a ((List.mem_append.mp m).elim (fun h => List.mem_append_left _ h) fun h => List.mem_append_right _ (h2.subset h)), c⟩
/-- one turn's end: the block's slots forgotten -/
theorem Rel.again {z : Z} {stk : List W} {us : List V} {env : Env} {σ : St} {H : Hp} (r : Rel z stk us env σ H) (na : stk.all noat = true) (vs : List Nat) : Rel z stk us (wipeE env vs) (wipe σ vs) H := by
  obtain ⟨G, as, bs, rs, re, nd, ow, c⟩ := r
  obtain ⟨bs', h1, h2⟩ := repe_wipe re vs
  exact ⟨G, as, bs', rs.set na, h1, nodup_r h2 nd, fun a m => ow a ((List.mem_append.mp m).elim (fun h => List.mem_append_left _ h) fun h => List.mem_append_right _ (h2.subset h)), c⟩
/-- out of a block -/
theorem Rel.out {z : Z} {stk : List W} {us : List V} {env : Env} {σ : St} {H : Hp} {vs : List Nat} (at' : AtOk σ stk us) (r : Rel z (stk.map hide) us (wipeE env vs) (wipe σ vs) H) : Rel z stk us (wipeE env vs) σ H := by
  obtain ⟨G, as, bs, rs, re, nd, ow, c⟩ := r
  refine ⟨G, as, bs, repst_show at' rs, repe_any re (by rw [wipe_length]) fun i w h => ?_, nd, ow, c⟩
  rw [wipe_at (wipeE_at h).1]
theorem Rel.atok {z : Z} {stk : List W} {us : List V} {env : Env} {σ : St} {H : Hp} (r : Rel z stk us env σ H) : AtOk σ stk us := let ⟨_, _, _, rs, _⟩ := r; atok_of rs
/-! the list that grows lies on the stack -/
theorem Rel.snoc {z : Z} {stk : List W} {us : List V} {env : Env} {σ : St} {H : Hp} {acc : List W} {w : W} {v d : V} (r : Rel z (w :: .ol acc :: stk) (v :: d :: us) env σ H) (tw : tree w = true) (hop : z.op = false) :
    ∃ a ts, d = .ref a ∧ H a = some (.lst ts) ∧ ts.length = acc.length ∧ Rel z (.ol (acc ++ [w]) :: stk) (d :: us) env σ (upd H a (.lst (ts ++ [v]))) := by
  obtain ⟨G, as, bs, ⟨v', vs', a1, a23, e, e2, r1, d', us', a2, a3, e3, e4, rd, rs⟩, re, nd, ow, c⟩ := r
  cases e; cases e3; subst e2 e4
  obtain ⟨a, ts, as', ev, ea, ha, rw_⟩ := rd
  subst ev ea
  have l : ts.length = acc.length := (repws_rds c.gh rw_).len
  obtain ⟨hg, how⟩ := ow a (by simp)
  have pm0 : List.Perm (a1 ++ ((a :: as') ++ a3) ++ bs) (a :: (a1 ++ (as' ++ a3) ++ bs)) := by
    have := (List.perm_middle (a := a) (l₁ := a1) (l₂ := as' ++ a3 ++ bs))
    simpa [List.append_assoc] using this
  have nm := List.nodup_cons.mp ((pm0.nodup_iff).mp nd)
  have g : Ag (a1 ++ (as' ++ a3) ++ bs) H (upd H a (.lst (ts ++ [v]))) := fun b m => upd_ne fun h => nm.1 (h ▸ m)
  refine ⟨a, ts, rfl, ha, l, G, (a :: (as' ++ a1)) ++ a3, bs, ⟨.ref a, _, a :: (as' ++ a1), a3, rfl, rfl, ?_, rs.move Z.like_refl Z.sub_refl (Same.refl _) g.l.r.r⟩, re.move Z.like_refl Z.sub_refl (Same.refl _) g.r, ?_, fun b m => ow b ?_, core_upd2 c ha ⟨ts, rfl⟩ hg how hop⟩
  · exact ⟨a, ts ++ [v], as' ++ a1, rfl, rfl, upd_same, repws_snoc (rw_.move Z.like_refl Z.sub_refl (Same.refl _) g.l.r.l) ((r1.w tw).move Z.like_refl Z.sub_refl (Same.refl _) g.l.l)⟩
  · have pm : List.Perm (a :: (a1 ++ (as' ++ a3) ++ bs)) ((a :: (as' ++ a1)) ++ a3 ++ bs) := by
      have h1 := List.perm_append_comm_assoc a1 as' (a3 ++ bs)
      simpa [List.append_assoc] using List.Perm.cons a h1
    exact (pm.nodup_iff).mp ((pm0.nodup_iff).mp nd)
  · simp only [List.mem_append, List.mem_cons] at m ⊢
    rcases m with (((m | m | m) | m) | m) <;> simp [m]
/-! THE RULE -/
def compL (vs : List Nat) (g : DTG) (tt : DTT) (te : DTE) : List W → List W → Env → (List W → Env → Prop) → Prop
  | [], acc, env, k => k acc env
  | w :: r, acc, env, k => g w env (fun e1 => tt e1 (fun b e2 => if b = true then te e2 (fun y e3 => useW y e3 fun y' e4 => acc.length < sizeLine ∧ compL vs g tt te r (acc ++ [y']) (wipeE e4 vs) k) kf else compL vs g tt te r acc (wipeE e2 vs) k) kf) kf
def dComp (vs : List Nat) (ti : DTI) (g : DTG) (tt : DTT) (te : DTE) : DTE := fun env k kx => ti env (fun items e1 => compL vs g tt te items [] (wipeE e1 vs) fun acc e2 => k (.ol acc) e2) kx
/-- the tests of a comprehension -/
def DTs (X : Cx) (ifs : List Expr) (t : DTT) : Prop := PTs X ifs (ttS X.K X.mg t)
def dYes : DTT := fun env k _ => k true env
theorem dts_nil : DTs X [] dYes := ⟨fun pins s σ H Q I ⟨z, stk, vs, env, k, ok, r, ht, q⟩ => pts_nil.run pins s σ H Q I (q true env H r ht)⟩
theorem dts_one {tt : DTT} (h : DT X c tt) : DTs X [c] tt := pts_one h.star
theorem comp_run {K : PySem.W.Frag} {mg : Str → Option Value} {wi : TI} {g : DTG} {tt : DTT} {te : DTE} {sl vs : List Nat} (hsl : ∀ i ∈ sl, i ∈ vs) {z : Z} {stk : List W} {us : List V} {env : Env} {σ : St} {H : Hp} {Q : VK} {k : DK} {items src : List W} {usrc : List V} {J : It}
    (ok : Okz2 K mg z) (ns : src.all noat = true) (ts : items.all tree = true) (lsrc : usrc.length = src.length) (gen : GenOk z J items src usrc) (r : Rel z (src ++ stk) (usrc ++ us) env σ H)
    (hk : compL vs g tt te items [] (wipeE env vs) fun acc e2 => k (.ol acc) e2) (q : ∀ w env' v H', Rel z (w :: stk) (v :: us) env' σ H' → k w env' → Q v H') (Dd : Addr) (hD : H Dd = none) :
    ∃ W : Nat → Nat → Hp → Prop, (∃ m, W 0 m (upd H Dd (.lst []))) ∧ ∀ i m H, W i m H → (J.stop i H ∧ Q (.ref Dd) H) ∨ (J.go i H ∧ ∃ Nx : Hp → Prop, (∀ H', Nx H' → ∃ m', m' < m ∧ W (i + 1) m' H') ∧ ∀ x H', J.yld i H x H' → tgS K mg sl g x (wipe σ vs) H' fun σ2 H2 => wipe σ2 vs = wipe σ vs ∧ ttS K mg tt σ2 H2 fun b H3 =>
      if b = true then teS K mg te σ2 H3 fun y H4 => ∃ acc, H4 Dd = some (.lst acc) ∧ acc.length < sizeLine ∧ Nx (upd H4 Dd (.lst (acc ++ [y]))) else Nx H3) := by
  have hat := r.drop (s1 := src) (u1 := usrc) lsrc |>.atok
  have hsrc : src.map hide = src := by
    have : ∀ {l : List W}, l.all noat = true → l.map hide = l := by
      intro l
      induction l with
      | nil => intro _; rfl
      | cons w l ih =>
        intro h
        obtain ⟨h1, h2⟩ := band (show (noat w && l.all noat) = true from h)
        rw [List.map_cons, ih h2]
        cases w <;> first | rfl | cases h1
    exact this ns
  have r0 : Rel z (src ++ stk.map hide) (usrc ++ us) (wipeE env vs) (wipe σ vs) H := by
    have := r.into vs
    rw [List.map_append, hsrc] at this
    exact this
  have na : ∀ {acc : List W}, (src ++ .ol acc :: stk.map hide).all noat = true := fun {acc} => by
    rw [List.all_append, ns]
    show (true && (true && (stk.map hide).all noat)) = true
    rw [hide_noat]; rfl
  -- the list at Dd lies below the source
  have rD : Rel z (src ++ .ol [] :: stk.map hide) (usrc ++ .ref Dd :: us) (wipeE env vs) (wipe σ vs) (upd H Dd (.lst [])) := Rel.down (Rel.newL (ws := []) (us := []) r0 rfl rfl hD ok.op) lsrc
  refine ⟨fun i m H => ∃ acc env2, m = items.length - i ∧ i ≤ items.length ∧ Rel z (src ++ .ol acc :: stk.map hide) (usrc ++ .ref Dd :: us) (wipeE env2 vs) (wipe σ vs) H ∧ compL vs g tt te (items.drop i) acc (wipeE env2 vs) fun acc e2 => k (.ol acc) e2, ⟨items.length, [], env, by omega, Nat.zero_le _, rD, hk⟩, fun i m H2 hW => ?_⟩
  obtain ⟨acc, env2, em, hi, r2, k2⟩ := hW
  have gi := gen _ _ _ _ _ r2 i hi
  by_cases hlt : i < items.length
  · have hd : items.drop i = items[i] :: items.drop (i + 1) := List.drop_eq_getElem_cons hlt
    rw [hd] at k2
    obtain ⟨go, yld⟩ := gi.2 items[i] (List.getElem?_eq_getElem hlt)
    refine .inr ⟨go, fun H3 => ∃ acc env3, Rel z (src ++ .ol acc :: stk.map hide) (usrc ++ .ref Dd :: us) (wipeE env3 vs) (wipe σ vs) H3 ∧ compL vs g tt te (items.drop (i + 1)) acc (wipeE env3 vs) fun acc e2 => k (.ol acc) e2, fun H3 ⟨acc3, env3, r3, k3⟩ => ⟨items.length - (i + 1), by omega, acc3, env3, rfl, hlt, r3, k3⟩, fun x H3 hy => ?_⟩
    have r3 := yld x H3 hy
    have tw : tree items[i] = true := List.all_eq_true.mp ts _ (List.getElem_mem hlt)
    refine ⟨z, _, _, _, items[i], _, ok, na, tw, r3, k2, fun env4 σ4 H4 r4 ch k4 => ⟨wipe_chg ch hsl |>.trans ?_, ?_⟩⟩
    · exact wipe_chg (sl := vs) ⟨wipe_length .., fun i m => wipe_at m⟩ fun i m => m
    have hw4 : wipe σ4 vs = wipe σ vs := (wipe_chg ch hsl).trans (wipe_chg (sl := vs) ⟨wipe_length .., fun i m => wipe_at m⟩ fun i m => m)
    refine ⟨z, _, _, env4, _, ok, r4, k4, fun b env5 H5 r5 k5 => ?_⟩
    cases b with
    | false =>
      rw [if_neg (by decide)]
      rw [if_neg (by decide)] at k5
      have r6 := r5.again na vs
      rw [hw4] at r6
      exact ⟨acc, env5, r6, k5⟩
    | true =>
      rw [if_pos rfl]
      rw [if_pos rfl] at k5
      refine ⟨z, _, _, env5, _, ok, r5, k5, fun y env6 v H6 r6 k6 => ?_⟩
      obtain ⟨y', env7, t7, _, r7, hl, k7⟩ := r6.useW k6
      -- the list comes up below y
      have r8 : Rel z (.ol acc :: y' :: (src ++ stk.map hide)) (.ref Dd :: v :: (usrc ++ us)) env7 σ4 H6 := Rel.up (s1 := y' :: src) (u1 := v :: usrc) r7 (congrArg Nat.succ lsrc)
      obtain ⟨a, tsx, ed, ha, lts, r9⟩ := (Rel.swap r8).snoc t7 ok.op
      cases ed
      have r10 := Rel.down r9 lsrc
      have r11 := r10.again na vs
      rw [hw4] at r11
      exact ⟨tsx, ha, by rw [lts]; exact hl, acc ++ [y'], env7, r11, k7⟩
  · have e : i = items.length := by omega
    subst e
    rw [List.drop_length] at k2
    refine .inl ⟨gi.1 rfl, ?_⟩
    have r3 := Rel.drop r2 lsrc
    have r4 : Rel z (.ol acc :: stk) (.ref Dd :: us) (wipeE env2 vs) σ H2 := Rel.out (stk := .ol acc :: stk) ⟨.ref Dd, us, rfl, (fun i e => nomatch e), hat⟩ r3
    exact q _ _ _ _ r4 k2
theorem de_comp {elt tg iter : Expr} {ifs : List Expr} {scope : Scope} {own : List (Str × Nat)} {ti : DTI} {g : DTG} {tt : DTT} {te : DTE} {sl : List Nat} (hc : X.calm = true) (hN : X.N.Nodup) (ok : BlkOk X.N X.env.scope scope own) (hsl : ∀ i ∈ sl, i ∈ own.map (·.2)) (hi : DI X tg iter ti)
    (hg : ∀ (s : Shared) (H : Hp) (C : Addr) (cl : List (Str × Addr)) (fp : List Addr), DG (X.blk s H scope (compEnvC scope cl C X.env) fp) tg sl g) (ht : ∀ (s : Shared) (H : Hp) (C : Addr) (cl : List (Str × Addr)) (fp : List Addr), DTs (X.blk s H scope (compEnvC scope cl C X.env) fp) ifs tt)
    (he : ∀ (s : Shared) (H : Hp) (C : Addr) (cl : List (Str × Addr)) (fp : List Addr), DE (X.blk s H scope (compEnvC scope cl C X.env) fp) elt te) (hs : ∀ x, foldedSetIterable iter X.env x = pure x) :
    DE X (.ListComp elt [⟨tg, iter, ifs, 0⟩] scope pos) (dComp (own.map (·.2)) ti g tt te) := fun Wx tk => by
  obtain ⟨wi, p, f⟩ := hi Wx tk
  refine ⟨_, pe_lc (g := tgS X.K X.mg sl g) (tt := ttS X.K X.mg tt) (te := teS X.K X.mg te) hc hN p ok (fun s H C cl fp => (hg s H C cl fp).star) ht (fun s H C cl fp => (he s H C cl fp).star) hs, fun z stk us env σ H Q k kx okz r t q qx => ?_⟩
  refine f z stk us env σ H _ _ kx okz r t (fun items env' J H' src usrc ns ts lsrc gen r1 k1 => ?_) qx
  exact fun Dd hD => comp_run (wi := wi) hsl ⟨okz.k, okz.m, okz.op⟩ ns ts lsrc gen r1 k1 q Dd hD
/-- y = [..] on one line, y a local -/
theorem ds_asgC {i : Nat} {y : Str} {py spos : Pos} {elt tg iter : Expr} {ifs : List Expr} {scope : Scope} {own : List (Str × Nat)} {ti : DTI} {g : DTG} {tt : DTT} {te : DTE} {sl : List Nat} (hc : X.calm = true) (hN : X.N.Nodup) (hy : X.N[i]? = some y) (hyl : X.env.scope.names.lookup y = some .local)
    (hsw : swapsWith (.ListComp elt [⟨tg, iter, ifs, 0⟩] scope pos) (some (.Name y py)) spos.line X.env = pure true) (ok : BlkOk X.N X.env.scope scope own) (hsl : ∀ i ∈ sl, i ∈ own.map (·.2)) (hi : DI X tg iter ti)
    (hg : ∀ (s : Shared) (H : Hp) (C : Addr) (cl : List (Str × Addr)) (fp : List Addr), DG (X.blk s H scope (compEnvC scope cl C X.env) fp) tg sl g) (ht : ∀ (s : Shared) (H : Hp) (C : Addr) (cl : List (Str × Addr)) (fp : List Addr), DTs (X.blk s H scope (compEnvC scope cl C X.env) fp) ifs tt)
    (he : ∀ (s : Shared) (H : Hp) (C : Addr) (cl : List (Str × Addr)) (fp : List Addr), DE (X.blk s H scope (compEnvC scope cl C X.env) fp) elt te) (hs : ∀ x, foldedSetIterable iter X.env x = pure x) (hgn : DG X (.Name y py) [i] (gN i)) :
    DS X (.Assign [.Name y py] (.ListComp elt [⟨tg, iter, ifs, 0⟩] scope pos) spos) (dAsg (dComp (own.map (·.2)) ti g tt te) (gN i)) := fun Wx tk => by
  obtain ⟨wi, p, f⟩ := hi Wx tk
  refine ⟨_, ps_setLc (g := tgS X.K X.mg sl g) (tt := ttS X.K X.mg tt) (te := teS X.K X.mg te) hc hN hy hyl hsw p ok (fun s H C cl fp => (hg s H C cl fp).star) ht (fun s H C cl fp => (he s H C cl fp).star) hs, fun z stk us env σ H D E kx okz na r t q => ?_⟩
  refine f z stk us env σ H _ _ kx okz r t (fun items env' J H' src usrc ns ts lsrc gen r1 k1 => ?_) fun x env' cls d H' => q.x x env' cls d σ H'
  refine fun Dd hD => comp_run (wi := wi) (g := g) (tt := tt) (te := te) (Q := fun x H1 => gName i x σ H1 D.nx) (k := fun w e1 => useW w e1 fun w' e2 => gN i w' e2 E.nx kx) hsl ⟨okz.k, okz.m, okz.op⟩ ns ts lsrc gen r1 k1 (fun w env2 v H2 r2 k2 => ?_) Dd hD
  obtain ⟨w', e3, t3, _, r3, hl, hk⟩ := r2.useW k2
  -- the store by its own rule
  obtain ⟨G, as, bs, ⟨v', vs', a1, a2, e, e2, q1, q2⟩, re, nd, ow, c⟩ := r3
  cases e; subst e2
  obtain ⟨b1, bi, b2, eb, ff⟩ := re.put hl
  subst eb
  refine q.nx _ _ _ ⟨G, a2, b1 ++ (a1 ++ b2), q2.set na, ff w' v a1 (q1.w t3), ?_, fun a m => ow a ?_, c⟩ hk
  · have sub : List.Sublist (a2 ++ (b1 ++ b2)) (a2 ++ (b1 ++ (bi ++ b2))) := List.Sublist.append_left (List.Sublist.append_left (List.sublist_append_right _ _) _) _
    have nd1 : (a1 ++ (a2 ++ (b1 ++ b2))).Nodup := by
      rw [List.append_assoc] at nd
      exact nodup_sub (List.Sublist.append_left sub _) nd
    have pm : List.Perm (a1 ++ (a2 ++ (b1 ++ b2))) (a2 ++ (b1 ++ (a1 ++ b2))) := by
      have h1 := List.perm_append_comm_assoc a1 (a2 ++ b1) b2
      simpa [List.append_assoc] using h1
    exact (pm.nodup_iff).mp nd1
  · simp only [List.mem_append] at m ⊢
    rcases m with m | m | m | m <;> simp [m]
end
end DL

/-! DL14: defs and their calls. -/
namespace DL
open PySem PySem.Spec
open PyProof.Rows L2
/-! arguments -/
def isArg : W → Bool
  | .d _ => true
  | .sto => true
  | .exn => true
  | _ => false
def argD (w : W) (env : Env) (k : W → Env → Prop) : Prop := match peek env w with
  | some .sto => k .sto env
  | some .exn => k .exn env
  | _ => useD w env fun x e => k (.d x) e
def argsD : List W → Env → (List W → Env → Prop) → Prop
  | [], env, k => k [] env
  | w :: ws, env, k => argD w env fun w' e => argsD ws e fun ws' e' => k (w' :: ws') e'
section
variable {z : Z} {stk : List W} {vs : List V} {env : Env} {σ : St} {H : Hp} {w : W} {v : V}
theorem Rel.top0 {w' : W} (r : Rel z (w :: stk) (v :: vs) env σ H) (h : peek env w = some w') (q : ∀ {G as}, RepW z G H w' v as → RepW z G H w' v []) : Rel z (w' :: stk) (v :: vs) env σ H := by
  obtain ⟨G, r⟩ := r
  obtain ⟨cs, rv⟩ := RelG.view r h
  obtain ⟨as, bs, ⟨v', vs', a1, a2, e, e2, r1, r2⟩, re, nd, ow, c⟩ := r
  cases e; subst e2
  refine ⟨G, a2, bs, ⟨v, vs, [], a2, rfl, rfl, .of (q rv), r2⟩, re, ?_, fun a m => ow a ?_, c⟩
  · rw [List.append_assoc] at nd
    exact (List.nodup_append.mp nd).2.1
  · rw [List.append_assoc]
    exact List.mem_append_right _ m
theorem Rel.argD {k : W → Env → Prop} (r : Rel z (w :: stk) (v :: vs) env σ H) (u : DL.argD w env k) : ∃ w' env', isArg w' = true ∧ Rel z (w' :: stk) (v :: vs) env' σ H ∧ k w' env' := by
  unfold DL.argD at u
  split at u
  · rename_i h
    exact ⟨.sto, env, rfl, r.top0 h fun r => ⟨rfl, r.2⟩, u⟩
  · rename_i h
    exact ⟨.exn, env, rfl, r.top0 h fun r => ⟨rfl, r.2⟩, u⟩
  · obtain ⟨x, e, r1, hk⟩ := r.useD u
    exact ⟨.d x, e, rfl, r1, hk⟩
theorem Rel.args : ∀ {ws : List W} {us : List V} {stk : List W} {vs : List V} {env : Env} {k : List W → Env → Prop}, Rel z (ws ++ stk) (us ++ vs) env σ H → us.length = ws.length → argsD ws env k →
    ∃ ws' env', ws'.all isArg = true ∧ ws'.length = ws.length ∧ Rel z (ws' ++ stk) (us ++ vs) env' σ H ∧ k ws' env'
  | [], us, stk, vs, env, k, r, l, u => ⟨[], env, rfl, rfl, r, u⟩
  | w :: ws, [], stk, vs, env, k, r, l, u => nomatch l
  | w :: ws, v :: us, stk, vs, env, k, r, l, u => by
    obtain ⟨w', e1, t1, r1, u1⟩ := Rel.argD (w := w) (stk := ws ++ stk) (vs := us ++ vs) r u
    obtain ⟨ws', e2, t2, l2, r2, u2⟩ := Rel.args (Rel.down r1 (Nat.succ.inj l)) (Nat.succ.inj l) u1
    refine ⟨w' :: ws', e2, ?_, congrArg Nat.succ l2, Rel.up r2 ((Nat.succ.inj l).trans l2.symm), u2⟩
    show (isArg w' && ws'.all isArg) = true
    rw [t1, t2]; rfl
end
/-! leaves that stand without the frozen part -/
def flatL : D → Bool
  | .non => true
  | .bl _ => true
  | .int _ => true
  | .str _ => true
  | .ty _ => true
  | .glo _ => true
  | _ => false
mutual
def clear : W → Bool
  | .d x => flatL x
  | .ol ws => clears ws
  | .ot ws => clears ws
  | .oi _ fs => clearf fs
  | .od kvs => cleark kvs
  | _ => false
def clears : List W → Bool
  | [] => true
  | w :: ws => clear w && clears ws
def clearf : List (String × W) → Bool
  | [] => true
  | (_, w) :: ws => clear w && clearf ws
def cleark : List (Key × W) → Bool
  | [] => true
  | (_, w) :: ws => clear w && cleark ws
end
section
variable {z z' : Z} {G G' H : Hp}
theorem Rep.flat {x : D} {v : V} (e : z.like z') (h : flatL x = true) (r : Rep z G x v) : Rep z' G' x v := by
  cases x <;> first | exact r | cases h | skip
  obtain ⟨a, m, q⟩ := r
  exact ⟨a, by rw [← e.m]; exact m, q⟩
mutual
theorem RepW.clear (e : z.like z') : ∀ {w : W} {v : V} {as : List Addr}, DL.clear w = true → RepW z G H w v as → RepW z' G' H w v as
  | .d _, _, _, h, ⟨q, r⟩ => ⟨q, Rep.flat e h r⟩
  | .ol _, _, _, h, ⟨a, vs, as', q, q2, s, r⟩ => ⟨a, vs, as', q, q2, s, RepWs.clear e h r⟩
  | .ot _, _, _, h, ⟨a, vs, as', q, q2, s, r⟩ => ⟨a, vs, as', q, q2, s, RepWs.clear e h r⟩
  | .oi _ _, _, _, h, ⟨a, C, dx, vs, as', q, q2, m, s, s2, r⟩ => ⟨a, C, dx, vs, as', q, q2, by rw [← e.m]; exact m, s, s2, RepWf.clear e h r⟩
  | .od _, _, _, h, ⟨a, vs, as', q, q2, s, r⟩ => ⟨a, vs, as', q, q2, s, RepWk.clear e h r⟩
  | .sto, _, _, h, _ => nomatch h
  | .exn, _, _, h, _ => nomatch h
  | .at_ _, _, _, h, _ => nomatch h
  | .hole, _, _, h, _ => nomatch h
theorem RepWs.clear (e : z.like z') : ∀ {w : List W} {v : List V} {as : List Addr}, DL.clears w = true → RepWs z G H w v as → RepWs z' G' H w v as
  | [], _, _, _, r => r
  | _ :: _, _, _, h, ⟨v, vs, a1, a2, q, q2, r, r2⟩ => ⟨v, vs, a1, a2, q, q2, RepW.clear e (band h).1 r, RepWs.clear e (band h).2 r2⟩
theorem RepWf.clear (e : z.like z') : ∀ {w : List (String × W)} {v : List (Str × V)} {as : List Addr}, DL.clearf w = true → RepWf z G H w v as → RepWf z' G' H w v as
  | [], _, _, _, r => r
  | (_, _) :: _, _, _, h, ⟨v, vs, a1, a2, q, q2, r, r2⟩ => ⟨v, vs, a1, a2, q, q2, RepW.clear e (band h).1 r, RepWf.clear e (band h).2 r2⟩
theorem RepWk.clear (e : z.like z') : ∀ {w : List (Key × W)} {v : List (Key × V)} {as : List Addr}, DL.cleark w = true → RepWk z G H w v as → RepWk z' G' H w v as
  | [], _, _, _, r => r
  | (_, _) :: _, _, _, h, ⟨v, vs, a1, a2, q, q2, r, r2⟩ => ⟨v, vs, a1, a2, q, q2, RepW.clear e (band h).1 r, RepWk.clear e (band h).2 r2⟩
end
end
/-! into a callee and back -/
def Z.inn (z : Z) (G H : Hp) : Z := { z with H0 := H, G0 := G }
section
variable {z : Z} {stk : List W} {vs : List V} {env : Env} {σ : St} {G G1 G2 G' H H' : Hp} {w : W} {v : V}
theorem Core.inn (c : Core z G H) (hop : z.op = false) : Core (z.inn G H) G H := by
  refine ⟨Same.refl _, c.gh, fun b o e _ => e, fun b h => .inl h, fun s hs => ⟨c.sG hop hs, ?_⟩, fun i hi dx hd => ?_, fun _ s hs => ?_⟩
  · obtain ⟨o, e⟩ := (c.sto hop s hs).there
    show H s ≠ none
    rw [e]; exact fun q => nomatch q
  · obtain ⟨us, h1, h2⟩ := c.xd i hi dx hd
    exact ⟨us, h1, RepF.like (z := z) (z' := z.inn G H) ⟨rfl, rfl, fun _ h => h⟩ h2⟩
  · obtain ⟨p, g, f, r, cc, u, xs, h1, h2, h3, h4, h5⟩ := c.sto hop s hs
    exact ⟨p, g, f, r, cc, u, xs, h1, h2, h3, Rep.like (z := z) (z' := z.inn G H) ⟨rfl, rfl, fun _ h => h⟩ (Rep.mono c.g0 h4), h5⟩
theorem Core.after (c : Core z G H) (hop : z.op = false) (c' : Core (z.inn G1 H) G' H') (g1 : Same G G2) (g2 : Same G2 H') (g3 : ∀ b, G2 b ≠ none → G b ≠ none ∨ H b = none) : Core z G2 H' := by
  have ns : ∀ {b : Addr} {o o2 : HO} {s : Addr}, z.s = some s → H s = some o2 → H b = some o → (∀ vs, o ≠ .lst vs) → (∃ vs, o2 = .lst vs) → b ≠ s := fun hs h1 h2 h3 ⟨vs, h4⟩ e => by
    subst e; rw [h1] at h2; cases h2; exact h3 vs h4
  refine ⟨c.g0.trans g1, g2, fun b o e n => c'.keep b o (c.keep b o e n) n, fun b h => ?_, c.sH, fun i hi dx hd => ?_, fun _ s hs => ?_⟩
  · rcases g3 b h with h | h
    · exact c.fresh b h
    · exact .inr (c.newOwn h hop).2
  · obtain ⟨us, h1, h2⟩ := c.xd i hi dx hd
    refine ⟨us, c'.keep dx _ h1 fun hs => ?_, RepF.mono g1 h2⟩
    obtain ⟨_, _, _, _, _, _, _, _, e, _⟩ := c.sto hop dx hs
    rw [h1] at e; cases e
  · obtain ⟨p, g, f, r, cc, u, xs, h1, h2, h3, h4, h5⟩ := c.sto hop s hs
    obtain ⟨p', g', f', r', cc', u', xs', k1, k2, k3, k4, k5⟩ := c'.sto hop s hs
    have eu : u' = u := by
      have k1 : z.sv = some u' := k1
      rw [h1] at k1; exact (Option.some.inj k1).symm
    subst eu
    exact ⟨p', g', f', r', cc', u', xs, h1, k2, k3, h4, h5⟩
theorem RelG.after (r : RelG z G stk vs env σ H) (hop : z.op = false) (c' : Core (z.inn G1 H) G' H') (g1 : Same G G2) (g2 : Same G2 H') (g3 : ∀ b, G2 b ≠ none → G b ≠ none ∨ H b = none) :
    ∃ as bs, RepSt z G2 H' σ stk vs as ∧ RepE z G2 H' env σ bs ∧ (as ++ bs).Nodup ∧ (∀ a ∈ as ++ bs, (G2 a = none ∧ z.Own a) ∧ H a ≠ none) ∧ Core z G2 H' := by
  obtain ⟨as, bs, rs, re, nd, ow, c⟩ := r
  have th : ∀ a ∈ as ++ bs, ∃ o, H a = some o := fun a m => (List.mem_append.mp m).elim (rs.there a) (re.there a)
  have ag : Ag (as ++ bs) H H' := fun a m => by
    obtain ⟨o, e⟩ := th a m
    rw [e]
    refine c'.keep a o e fun hs => ?_
    have hs : z.s = some a := hs
    rcases (ow a m).2 with h | ⟨h, _⟩
    · exact (c.sH a hs).2 h
    · rw [hop] at h; cases h
  refine ⟨as, bs, rs.move Z.like_refl Z.sub_refl g1 ag.l, re.move Z.like_refl Z.sub_refl g1 ag.r, nd, fun a m => ⟨⟨?_, (ow a m).2⟩, ?_⟩, c.after hop c' g1 g2 g3⟩
  · cases e : G2 a with
    | none => rfl
    | some o =>
      rcases g3 a (by rw [e]; exact fun q => nomatch q) with h | h
      · exact absurd (ow a m).1 h
      · obtain ⟨o2, e2⟩ := th a m
        rw [h] at e2; cases e2
  · obtain ⟨o2, e2⟩ := th a m
    rw [e2]; exact fun q => nomatch q
/-- the callee's value comes onto the stack -/
theorem RelG.back (r : RelG z G stk vs env σ H) (hop : z.op = false) (r' : RelG (z.inn G1 H) G' [w] [v] [] [] H') (tw : tree w = true) (g1 : Same G G2) (g2 : Same G2 H') (g3 : ∀ b, G2 b ≠ none → G b ≠ none ∨ H b = none)
    (hw : ∀ as, RepW (z.inn G1 H) G' H' w v as → (∀ a ∈ as, G' a = none ∧ H a = none) → RepW z G2 H' w v as ∧ ∀ a ∈ as, G2 a = none) : Rel z (w :: stk) (v :: vs) env σ H' := by
  obtain ⟨as1, bs1, ⟨v', vs', a1, a2, e, e2, q1, ⟨q2, q3⟩⟩, ⟨_, q4⟩, nd1, ow1, c'⟩ := r'
  cases e
  subst e2 q3 q4
  have c := r.core
  obtain ⟨as, bs, rs, re, nd, ow, c2⟩ := RelG.after r hop c' g1 g2 g3
  have hn : ∀ a ∈ a1, H a = none := fun a m => by
    rcases (ow1 a (by simpa using m)).2 with h | ⟨h, _⟩
    · exact h
    · rw [show (z.inn G1 H).op = z.op from rfl, hop] at h; cases h
  obtain ⟨rw2, gn⟩ := hw a1 (q1.w tw) fun a m => ⟨(ow1 a (by simpa using m)).1, hn a m⟩
  refine ⟨G2, a1 ++ as, bs, ⟨v, vs, a1, as, rfl, rfl, .of rw2, rs⟩, re, ?_, fun a m => ?_, c2⟩
  · rw [List.append_assoc]
    refine List.nodup_append.mpr ⟨by simpa using nd1, nd, fun a m b m2 e => ?_⟩
    subst e
    exact (ow a m2).2 (hn a m)
  · rw [List.append_assoc] at m
    rcases List.mem_append.mp m with m | m
    · exact ⟨gn a m, (c.newOwn (hn a m) hop).2⟩
    · exact (ow a m).1
theorem Z.inn_like : (z.inn G H).like z := ⟨rfl, rfl, fun _ h => h⟩
theorem Z.inn_sub : (z.inn G H).sub z := ⟨fun _ h => h, fun _ h => h, fun _ h => h⟩
theorem Core.fresh_inn (c' : Core (z.inn G H) G' H') (hop : z.op = false) : ∀ b, G' b ≠ none → G b ≠ none ∨ H b = none := fun b h => by
  rcases c'.fresh b h with h | h | ⟨h, _⟩
  · exact .inl h
  · exact .inr h
  · rw [show (z.inn G H).op = z.op from rfl, hop] at h; cases h
theorem RelG.back1 (r : RelG z G stk vs env σ H) (hop : z.op = false) (r' : Rel (z.inn G H) [w] [v] [] [] H') (tw : tree w = true) : Rel z (w :: stk) (v :: vs) env σ H' := by
  obtain ⟨G', r'⟩ := r'
  have c' := RelG.core r'
  exact RelG.back r hop r' tw c'.g0 c'.gh (c'.fresh_inn hop) fun as h hn => ⟨h.move Z.inn_like Z.inn_sub (Same.refl _) fun _ _ => rfl, fun a m => (hn a m).1⟩
theorem Rel.back0 (r : Rel z stk vs env σ H) (hop : z.op = false) (r' : Rel (z.inn G1 H) [w] [v] [] [] H') (tw : tree w = true) (cl : clear w = true) : Rel z (w :: stk) (v :: vs) env σ H' := by
  obtain ⟨G, r⟩ := r
  obtain ⟨G', r'⟩ := r'
  have c := RelG.core r
  have c' := RelG.core r'
  have g2 : Same G H' := fun b o e => by
    refine c'.keep b o (c.gh b o e) fun hs => ?_
    have := c.sG hop hs
    rw [e] at this; cases this
  refine RelG.back r hop r' tw (Same.refl _) g2 (fun b h => .inl h) fun as h hn => ⟨RepW.clear Z.inn_like cl h, fun a m => c.gh.free (hn a m).2⟩
/-- an error out of the callee -/
theorem RelG.backX {x : Exn} {cls : Value} {d : Option Addr} {env0 : Env} {σ0 : St} (r : RelG z G stk vs env σ H) (hop : z.op = false) (r' : RelX (z.inn G H) x cls d env0 σ0 H') : RelX z x cls d env σ H' := by
  obtain ⟨G', C, r', h1, h2, h3⟩ := r'
  have c' := RelG.core r'
  obtain ⟨as, bs, rs, re, nd, ow, c2⟩ := RelG.after r hop c' c'.g0 c'.gh (c'.fresh_inn hop)
  refine ⟨G', C, ⟨[], bs, ⟨rfl, rfl⟩, re, (List.nodup_append.mp nd).2.1, fun a m => (ow a (List.mem_append_right _ m)).1, c2⟩, h1, h2, ?_⟩
  obtain ⟨xc, fs⟩ := x
  cases fs with
  | nil => exact h3
  | cons p fs =>
    obtain ⟨dx, us, e1, e2, e3⟩ := h3
    exact ⟨dx, us, e1, e2, RepF.like Z.inn_like e3⟩
end
end DL
namespace DL
open PySem PySem.Spec
open PyProof.Rows L2
/-! promises over plain data -/
abbrev DSp := List W → (W → Prop) → (Exn → Prop) → Prop
def toSp (K : PySem.W.Frag) (mg : Str → Option Value) (n : Nat) (s : DSp) : Sp := fun vs H Q E => vs.length = n ∧ ∃ (z : Z) (ws : List W) (k : W → Prop) (kx : Exn → Prop), z.K = K ∧ z.mg = mg ∧ z.op = false ∧ z.H0 = H ∧ ws.all isArg = true ∧ RepWs z z.G0 H ws vs [] ∧ Core z z.G0 H ∧ s ws k kx ∧
  (∀ w v H', tree w = true → Rel z [w] [v] [] [] H' → k w → Q v H') ∧ ∀ x env σ cls d H', RelX z x cls d env σ H' → kx x → E cls d H'
def startE (N : List Str) (ws : List W) : Env := ws.map some ++ List.replicate (N.length - ws.length) none
def retE (k : W → Prop) : DEnds := { nx := fun _ => k (.d .non), rt := fun w e => ∃ w0, peek e w = some w0 ∧ k w0 }
theorem repe_none_all {z : Z} {G H : Hp} : ∀ n, RepE z G H (List.replicate n none) (List.replicate n none) []
  | 0 => ⟨rfl, rfl⟩
  | n + 1 => ⟨none, List.replicate n none, rfl, repe_none_all n⟩
theorem repe_start {z : Z} {G H : Hp} {m : Nat} : ∀ {ws : List W} {vs : List V} {as : List Addr}, RepWs z G H ws vs as → RepE z G H (ws.map some ++ List.replicate m none) (vs.map some ++ List.replicate m none) as
  | [], _, _, ⟨q, q2⟩ => by subst q q2; exact repe_none_all m
  | w :: ws, _, _, ⟨v, vs, a1, a2, q, q2, r, r2⟩ => by subst q q2; exact ⟨v, _, a1, a2, rfl, rfl, r, repe_start r2⟩
theorem repws_len {z : Z} {G H : Hp} : ∀ {ws : List W} {vs : List V} {as : List Addr}, RepWs z G H ws vs as → vs.length = ws.length
  | [], _, _, ⟨q, _⟩ => by subst q; rfl
  | _ :: _, _, _, ⟨v, vs, _, _, q, _, _, r⟩ => by subst q; exact congrArg Nat.succ (repws_len r)
theorem rel_start {z : Z} {H : Hp} {ws : List W} {vs : List V} {N : List Str} (r : RepWs z z.G0 H ws vs []) (c : Core z z.G0 H) : Rel z [] [] (startE N ws) (start N vs) H := by
  refine ⟨z.G0, [], [], ⟨rfl, rfl⟩, ?_, List.nodup_nil, fun a m => by simp at m, c⟩
  have e := repws_len r
  show RepE z z.G0 H (ws.map some ++ List.replicate (N.length - ws.length) none) (vs.map some ++ List.replicate (N.length - vs.length) none) []
  rw [e]
  exact repe_start r
/-- what a def hands back leaves its slot -/
theorem Rel.out1 {z : Z} {w w0 : W} {v : V} {env : Env} {σ : St} {H : Hp} (r : Rel z [w] [v] env σ H) (h : peek env w = some w0) : Rel z [w0] [v] [] [] H := by
  obtain ⟨G, as, bs, ⟨v', vs', a1, a2, e, e2, r1, ⟨q1, q2⟩⟩, re, nd, ow, c⟩ := r
  cases e
  subst e2 q2
  rw [List.append_nil] at nd ow
  have own : ∀ {as : List Addr}, RepW z G H w0 v as → List.Sublist as (a1 ++ bs) → Rel z [w0] [v] [] [] H := fun {as} h s =>
    ⟨G, as ++ [], [], ⟨v, [], as, [], rfl, rfl, .of h, ⟨rfl, rfl⟩⟩, ⟨rfl, rfl⟩, by rw [List.append_nil, List.append_nil]; exact nodup_sub s nd, fun a m => ow a (s.subset (by simpa using m)), c⟩
  cases w with
  | at_ i =>
    obtain ⟨_, e⟩ := r1
    have h2 : env[i]? = some (some w0) := by
      have h3 : (match env[i]? with | some (some w) => some w | _ => none) = some w0 := h
      cases e1 : env[i]? with
      | none => rw [e1] at h3; cases h3
      | some o =>
        rw [e1] at h3
        cases o with
        | none => cases h3
        | some w1 => cases h3; rfl
    obtain ⟨v2, b1, bi, b2, e2, e3, h3, _⟩ := re.at_ h2
    rw [e] at e2
    cases e2
    subst e3
    exact own h3 ((List.sublist_append_left _ _).trans ((List.sublist_append_right _ _).trans (List.sublist_append_right _ _)))
  | hole => cases h
  | _ => cases h; exact own r1 (List.sublist_append_left _ _)
theorem peek_tree {env : Env} {w w0 : W} {z : Z} {v : V} {σ : St} {H : Hp} (r : Rel z [w] [v] env σ H) (h : peek env w = some w0) : tree w0 = true := by
  obtain ⟨G, r⟩ := r
  obtain ⟨as, rv⟩ := RelG.view r h
  cases w0 <;> first | rfl | exact rv.elim

/-! the place of a def's walk -/
structure FX (N : List Str) (sc : Scope) (fs : Option Scope) (k : Nat) (X : Cx) : Prop where
  n : X.N = N
  nd : X.N.Nodup
  sc : X.env.scope = sc
  fn : ∀ x, (fs.elim true fun s => s.names.lookup x == some .cell) = true → X.fn x = true
  calm : X.calm = true
  room : Room k X.A
/-- a block's scope within one -/
def relS (s2 sc : Scope) : Scope := { s2 with names := s2.names.map fun (n, k) => if (k == .free && sc.kind == .function && sc.names.lookup n == some .cell) then (n, .cell) else (n, k) }
theorem FX.blk {N : List Str} {sc sc2 : Scope} {fs : Option Scope} {k : Nat} {X : Cx} (h : FX N sc fs k X) (s : Shared) (H : Hp) (C : Addr) (cl : List (Str × Addr)) (fp : List Addr) : FX N (relS sc2 sc) (some sc2) k (X.blk s H sc2 (compEnvC sc2 cl C X.env) fp) := ⟨h.n, h.nd, by
  show relS sc2 X.env.scope = relS sc2 sc
  rw [h.sc], fun x hx => hx, h.calm, h.room⟩
/-- a def of the module, and what it promises -/
def DFn (P : Program) (w : World) (K : PySem.W.Frag) (mg : Str → Option Value) (base : Heap) (x : Str) (ps : List Str) (k : Nat) (s : DSp) : Prop :=
  ∃ f fd, mg x = some (.ref f) ∧ PySem.W.keepIn K (.ref f) = true ∧ Binds K fd ps [] ∧ FnOk P w K mg base (L2N.CX P w) k f fd ps (toSp K mg ps.length s)
/-- THE RULE for a def -/
theorem fnok_of {P : Program} {w : World} {K : PySem.W.Frag} {mg : Str → Option Value} {base : Heap} {x qual : Str} {params : Arguments} {body : List Stmt} {scope : Scope} {dvs : List V} {kws : List (Str × V)} {f : Addr} {fd : FuncData} {N ps : List Str} {k : Nat} {s : DSp} {t : DTS}
    (F : FunD K x qual params body scope dvs kws f fd) (S : FnScope N ps scope)
    (hw : ∀ (cdv : Value) (A : Around) (outer : List PySem.Env) (s : Shared) (H : Hp) (E : XK), FX N scope none k (cxOf (L2N.CX P w) P w K mg base N qual scope f cdv A outer s H E) → PassesOwn (model P w) (cxOf (L2N.CX P w) P w K mg base N qual scope f cdv A outer s H E).A (cxOf (L2N.CX P w) P w K mg base N qual scope f cdv A outer s H E).env (cxOf (L2N.CX P w) P w K mg base N qual scope f cdv A outer s H E).xe → DSs (cxOf (L2N.CX P w) P w K mg base N qual scope f cdv A outer s H E) body t)
    (hp : ∀ ws k kx, ws.length = ps.length → s ws k kx → t (retE k) (fun x _ => kx x) (startE N ws)) :
    FnOk P w K mg base (L2N.CX P w) (k + 1) f fd ps (toSp K mg ps.length s) := by
  refine FunD.ok F S (fun vs H Q E h => h.1) fun cdv A outer s0 H vs Q E hr h => ?_
  obtain ⟨l, z, ws, k1, kx, e1, e2, e3, e4, aw, rw_, c, hs, hk, hx⟩ := h
  have px : PassesOwn (model P w) (cxOf (L2N.CX P w) P w K mg base N qual scope f cdv A outer s0 H E).A (cxOf (L2N.CX P w) P w K mg base N qual scope f cdv A outer s0 H E).env (cxOf (L2N.CX P w) P w K mg base N qual scope f cdv A outer s0 H E).xe := PassesOwn.leaving
  obtain ⟨ts, p, fm⟩ := hw cdv A outer s0 H E ⟨rfl, S.nd, rfl, fun _ _ => rfl, rfl, hr⟩ px _ (L2N.takes_of (X := cxOf (L2N.CX P w) P w K mg base N qual scope f cdv A outer s0 H E) (E := E) rfl rfl rfl rfl)
  refine ⟨ts, p, ?_⟩
  have lw : ws.length = ps.length := (repws_len rw_).symm.trans l
  refine fm z [] [] (startE N ws) _ H _ (retE k1) (fun x _ => kx x) ⟨e1, e2, e3⟩ rfl (rel_start rw_ c) (hp ws k1 kx lw hs) ⟨fun env σ H' r h => ?_, fun w env v σ H' r ⟨w0, h1, h2⟩ => ?_, fun _ _ _ _ h => h, fun _ _ _ _ h => h, fun x env cls d σ H' r h => hx x env σ cls d H' r h⟩
  · refine hk (.d .non) .non H' rfl ?_ h
    exact (Rel.out1 (w0 := .d .non) (Rel.pushNon r) rfl)
  · exact hk w0 v H' (peek_tree r h1) (Rel.out1 r h1) h2
/-- THE RULE for a call -/
def dCall (n : Nat) (s : DSp) (tr : DTA) : DTE := fun env k kx => tr env (fun ws e1 => ws.length = n ∧ argsD ws e1 fun ws' e2 => s ws' (fun w => nosto w = true ∧ k w (if clear w = true then e1 else e2)) fun x => kx x e2) kx
theorem passN {X : Cx} {W : WX} (tk : L2N.Takes X W) (σ : St) : PassesAt (L2N.CX X.prog X.w) X σ (WE W σ) := fun _ _ _ e s' I c => tk e s' (L2N.XE.of_call I (fun _ _ _ h => h) c)
section
variable {X : Cx} {x : Str} {e : Expr} {es : List Expr} {tr : DTA} {p pos : Pos} {N ps : List Str} {sc : Scope} {fs : Option Scope} {j k : Nat} {s : DSp}
theorem repws_args {z : Z} {G H : Hp} {σ : St} : ∀ {ws : List W} {vs : List V} {as : List Addr}, ws.all isArg = true → RepSt z G H σ ws vs as → as = [] ∧ ∀ H0, RepWs (z.inn G H0) G H0 ws vs []
  | [], _, _, _, ⟨q, q2⟩ => by subst q q2; exact ⟨rfl, fun _ => ⟨rfl, rfl⟩⟩
  | w :: ws, _, _, t, ⟨v, vs, a1, a2, q, q2, r, r2⟩ => by
    obtain ⟨t1, t2⟩ := band (show (isArg w && ws.all isArg) = true from t)
    obtain ⟨e2, h2⟩ := repws_args t2 r2
    subst q q2 e2
    have h1 : a1 = [] ∧ ∀ H0, RepW (z.inn G H0) G H0 w v [] := by
      cases w with
      | d x => exact ⟨r.1, fun H0 => ⟨rfl, Rep.like (z := z) (z' := z.inn G H0) ⟨rfl, rfl, fun _ h => h⟩ r.2⟩⟩
      | sto => obtain ⟨q, s, h, e⟩ := r; exact ⟨q, fun _ => ⟨rfl, s, h, e⟩⟩
      | exn => obtain ⟨q, s, h, e⟩ := r; exact ⟨q, fun _ => ⟨rfl, s, h, e⟩⟩
      | _ => cases t1
    obtain ⟨e1, h1⟩ := h1
    subst e1
    exact ⟨rfl, fun H0 => ⟨v, vs, [], [], rfl, rfl, h1 H0, h2 H0⟩⟩
/-- what a call does with its arguments at hand -/
theorem run_call {z : Z} {stk ws : List W} {vs us : List V} {env : Env} {σ : St} {H : Hp} {Q : VK} {kk : DK} {kx : XC} {Wx : WX} (okz : Okz X z) (r : Rel z (ws ++ stk) (us ++ vs) env σ H) (l : us.length = ws.length) (hl : ws.length = ps.length)
    (u : argsD ws env fun ws' e2 => s ws' (fun w => nosto w = true ∧ kk w (if clear w = true then env else e2)) fun x => kx x e2)
    (q : ∀ w env' v H', Rel z (w :: stk) (v :: vs) env' σ H' → kk w env' → Q v H') (qx : ∀ x env' cls d H', RelX z x cls d env' σ H' → kx x env' → Wx cls d σ H') : toSp X.K X.mg ps.length s us H Q (WE Wx σ) := by
  obtain ⟨ws', env', aw, lw, r1, hs⟩ := Rel.args r l u
  have r0 : Rel z stk vs env σ H := Rel.drop r l
  obtain ⟨G, rg⟩ := r1
  have c := RelG.core rg
  obtain ⟨as, bs, rs, re, nd, ow, _⟩ := id rg
  obtain ⟨v1, v2, a1, a2, e1, e2, q1, q2⟩ := rs.split
  obtain ⟨e3, e4⟩ := List.append_inj e1 (by rw [l, q1.len, lw])
  subst e3 e4 e2
  obtain ⟨e5, ha⟩ := repws_args aw q1
  subst e5
  have rd : RelG z G stk vs env' σ H := ⟨a2, bs, q2, re, nd, ow, c⟩
  refine ⟨by rw [l, hl], z.inn G H, ws', _, _, okz.k, okz.m, okz.op, rfl, aw, ha H, c.inn okz.op, hs, fun w v H' tw r' ⟨_, hk⟩ => ?_, fun x env0 σ0 cls d H' r' hk => qx x env' cls d H' (RelG.backX rd okz.op r') hk⟩
  by_cases hc : clear w = true
  · rw [if_pos hc] at hk
    exact q _ _ _ _ (Rel.back0 r0 okz.op r' tw hc) hk
  · rw [if_neg hc] at hk
    exact q _ _ _ _ (RelG.back1 rd okz.op r' tw) hk
theorem de_call (h : FX N sc fs k X) (F : DFn X.prog X.w X.K X.mg X.base x ps j s) (hj : j ≤ k) (hg : Gl X x) (hdb : (x == ("__debug__" : Str)) = false) (hp : Pls (e :: es)) (ha : DA X (e :: es) tr) : DE X (.Call (.Name x p) (e :: es) [] pos) (dCall ps.length s tr) := fun Wx tk => by
  obtain ⟨ta, pa, fa⟩ := ha Wx tk
  obtain ⟨f, fd, hm, hk, hb, F⟩ := F
  refine ⟨_, pe_callS F (h.room.mono hj) hg hm hk hb (passN tk) pa hdb (hp.hd.star _ _) hp.tl.any, fun z stk vs env σ H Q kk kx ok r t q qx => ?_⟩
  exact fa z stk vs env σ H _ _ kx ok r t (fun ws env' us H' l r1 ⟨hl, u⟩ => run_call ok r1 l hl u q qx) qx
theorem pe_callS0 {CX : CXT} {f : Addr} {fd : FuncData} {sp : Sp} {E : St → XK} (F : FnOk X.prog X.w X.K X.mg X.base CX k f fd [] sp) (hr : Room k X.A) (hg : Gl X x) (hm : X.mg x = some (.ref f)) (hk : PySem.W.keepIn X.K (.ref f) = true) (hb : Binds X.K fd [] []) (hx : ∀ σ, PassesAt CX X σ (E σ))
    (hdb : (x == ("__debug__" : Str)) = false) : PE X (.Call (.Name x p) [] [] pos) (tCallS sp E tNil) := by
  refine ⟨fun pins s σ H Q I h => ?_⟩
  refine wpAny_Call_Name_kw (ld_glob I hg hm ?_ hdb)
  exact PySem.W.callWith_K0 I.kIn hk (run_fnS F hr hb (hx σ) I .nil h)
def dCall0 (s : DSp) : DTE := fun env k kx => s [] (fun w => nosto w = true ∧ k w env) fun x => kx x env
theorem de_call0 (h : FX N sc fs k X) (F : DFn X.prog X.w X.K X.mg X.base x [] j s) (hj : j ≤ k) (hg : Gl X x) (hdb : (x == ("__debug__" : Str)) = false) : DE X (.Call (.Name x p) [] [] pos) (dCall0 s) := fun Wx tk => by
  obtain ⟨f, fd, hm, hk, hb, F⟩ := F
  refine ⟨_, pe_callS0 F (h.room.mono hj) hg hm hk hb (passN tk) hdb, fun z stk vs env σ H Q kk kx ok r t q qx => ?_⟩
  refine run_call (ws := []) (us := []) (ps := []) (kk := kk) ok r rfl rfl ?_ q qx
  show s [] (fun w => nosto w = true ∧ kk w (if clear w = true then env else env)) fun x => kx x env
  have e : (fun w => nosto w = true ∧ kk w (if clear w = true then env else env)) = fun w => nosto w = true ∧ kk w env := funext fun w => by rw [ite_self]
  rw [e]
  exact t
end
end DL

/-! DL15: stores into lists, f-strings, str.index. -/
namespace DL
open PySem PySem.Spec
open PyProof.Rows L2
section
variable {X : Cx} {o i e a b : Expr} {to ti ta tb te : DTE} {pos : Pos} {es : List Expr}
/-- l[i] = w, l a list that a slot owns -/
def setW (wo wi w : W) (env : Env) (k : Env → Prop) : Prop := match wo, peek env wi with
  | .at_ j, some (.d (.int n)) => match env[j]? with
    | some (some (.ol ws)) => match ixN ws.length n with
      | some m => k (env.set j (some (.ol (ws.set m w))))
      | none => False
    | some (some (.oL ws)) => match ixN ws.length n with
      | some m => k (env.set j (some (.oL (ws.set m w))))
      | none => False
    | _ => False
  | _, _ => False
def gSub (to ti : DTE) : DTG := fun w env k kx => to env (fun wo e1 => ti e1 (fun wi e2 => setW wo wi w e2 k) kx) kx
theorem dg_sub (ho : DE X o to) (hi : DE X i ti)
    (ha : ∀ v, assign (.Subscript o i pos) X.env v = (do
      let ov ← holding [v] (eval o X.env)
      let iv ← holding [v, ov] (eval i X.env)
      standAt pos
      holding [v, ov, iv] (setItem ov iv v)
      release [v, ov, iv] [])) : DG X (.Subscript o i pos) [] (gSub to ti) := fun Wx tk => by
  obtain ⟨t1, p1, f1⟩ := ho Wx tk
  obtain ⟨t2, p2, f2⟩ := hi Wx tk
  refine ⟨_, pg_sub p1 p2 set_list ha, fun z stk vs env σ H w v Q k kx ok na tw r t q qx => ?_⟩
  refine f1 z _ _ env σ H _ _ kx ok r t (fun wo e1 vo H1 r1 k1 => ?_) fun x env' cls d H' => qx x env' cls d σ H'
  refine f2 z _ _ e1 σ H1 _ _ kx ok r1 k1 (fun wi e2 vi H2 r2 k2 => ?_) fun x env' cls d H' => qx x env' cls d σ H'
  unfold setW at k2
  split at k2
  · rename_i j n h1
    have ei := rd_int (r2.look h1)
    subst ei
    split at k2
    · rename_i ws hj
      split at k2
      · rename_i m hm
        have r3 := r2.pop
        obtain ⟨a, us, hs, ha, hl, _, r4⟩ := r3.pop.mut hj tw ok.op
        have ev := at_v r3 hs
        subst ev
        have lm : m < ws.length := (ixN_seq hm).2.1
        exact ⟨a, us, n, m, rfl, rfl, ha, by rw [hl]; exact hm, q _ _ _ (r4 m lm) Chg.refl k2⟩
      · exact k2.elim
    · rename_i ws hj
      split at k2
      · rename_i m hm
        have r3 := r2.pop
        obtain ⟨a, us, hs, ha, hl, r4⟩ := r3.pop.mutL hj tw ok.op
        have ev := at_v r3 hs
        subst ev
        have lm : m < ws.length := (ixN_seq hm).2.1
        exact ⟨a, us, n, m, rfl, rfl, ha, by rw [hl]; exact hm, q _ _ _ (r4 m lm) Chg.refl k2⟩
      · exact k2.elim
    · exact k2.elim
  · exact k2.elim
/-! f-strings -/
def kFmt (w : W) (env : Env) (k : DK) : Prop := match peek env w with
  | some (.d (.str s)) => s.length ≤ sizeLine ∧ k (.d (.str s)) env
  | some (.d (.int i)) => i.natAbs.log2 < 1920 ∧ k (.d (.str (showI i))) env
  | _ => False
def dFmt (te : DTE) : DTE := fun env k kx => te env (fun w e1 => kFmt w e1 k) kx
theorem de_fmt (he : DE X e te) : DE X (.FormattedValue e (-1) none pos) (dFmt te) := fun Wx tk => by
  obtain ⟨t1, p1, f1⟩ := he Wx tk
  refine ⟨_, pe_fmt p1, fun z stk vs env σ H Q k kx ok r t q qx => f1 z stk vs env σ H _ _ kx ok r t (fun w e1 v H1 r1 k1 => ?_) qx⟩
  unfold kFmt at k1
  split at k1
  · rename_i s h1
    have e1 := rd_str (r1.look h1)
    subst e1
    exact .inl ⟨_, rfl, by rw [str_len]; exact k1.1, q _ _ _ _ r1.pop.pushStr k1.2⟩
  · rename_i s h1
    have e1 := rd_int (r1.look h1)
    subst e1
    exact .inr ⟨_, rfl, k1.1, q _ _ _ _ (Rel.push (x := .str (showI s)) r1.pop fun _ _ _ _ => congrArg V.str (showI_str s)) k1.2⟩
  · exact k1.elim
def dJs : List DTE → List Nat → Env → DK → XC → Prop
  | [], acc, env, k, _ => k (.d (.str acc)) env
  | t :: ts, acc, env, k, kx => t env (fun w e1 => match peek e1 w with
    | some (.d (.str s)) => (acc ++ s).length ≤ sizeLine ∧ dJs ts (acc ++ s) e1 k kx
    | _ => False) kx
inductive DJ (X : Cx) : List Expr → List DTE → Prop where
  | nil : DJ X [] []
  | cons {e : Expr} {t : DTE} {es : List Expr} {ts : List DTE} (h : DE X e t) (r : DJ X es ts) : DJ X (e :: es) (t :: ts)
theorem dj_run {es : List Expr} {ts : List DTE} (h : DJ X es ts) {Wx : WX} (tk : L2N.Takes X Wx) : ∃ us, PJ X es us ∧ ∀ z stk vs env σ H (acc : List Nat) (Q : Str → Hp → Prop) (k : DK) (kx : XC), Okz X z → Rel z stk vs env σ H → dJs ts acc env k kx →
    (∀ s env' H', Rel z stk vs env' σ H' → k (.d (.str s)) env' → Q ⟨s.toArray⟩ H') → (∀ x env' cls d H', RelX z x cls d env' σ H' → kx x env' → Wx cls d σ H') → tJs us ⟨acc.toArray⟩ σ H Q := by
  induction h with
  | nil => exact ⟨_, .nil, fun z stk vs env σ H acc Q k kx ok r t q qx => q acc env H r t⟩
  | cons h _ ih =>
    obtain ⟨t1, p1, f1⟩ := h Wx tk
    obtain ⟨us, p2, f2⟩ := ih
    refine ⟨_, .cons p1 p2, fun z stk vs env σ H acc Q k kx ok r t q qx => f1 z stk vs env σ H _ _ kx ok r t (fun w e1 v H1 r1 k1 => ?_) qx⟩
    split at k1
    · rename_i s h1
      have e1 := rd_str (r1.look h1)
      subst e1
      refine ⟨_, rfl, ?_, ?_⟩
      · rw [str_app, str_len]; exact k1.1
      · rw [str_app]
        exact f2 z stk vs _ σ H1 (acc ++ s) Q k kx ok r1.pop k1.2 q qx
    · exact k1.elim
def dJoin (ts : List DTE) : DTE := fun env k kx => dJs ts [] env k kx
theorem de_joined {v1 v2 : Expr} {rest : List Expr} {ts : List DTE} (h : DJ X (v1 :: v2 :: rest) ts) : DE X (.JoinedStr (v1 :: v2 :: rest) pos) (dJoin ts) := fun Wx tk => by
  obtain ⟨us, p, f⟩ := dj_run h tk
  exact ⟨_, pe_joined p, fun z stk vs env σ H Q k kx ok r t q qx => f z stk vs env σ H [] _ k kx ok r t (fun s env' H' r' k' => q _ _ _ _ r'.pushStr k') qx⟩
theorem de_joined1 (h : DE X e te) : DE X (.JoinedStr [e] pos) te := fun Wx tk => let ⟨_, p, f⟩ := h Wx tk; ⟨_, pe_joined1 p, f⟩
/-! s.index(t), found -/
def mIndex : W → DCl := fun wo ws env k => match ws with
  | [w] => match pkS wo env, pkS w env with
    | some s, some t => match Builtin.Str.occurrences ⟨s.toArray⟩ ⟨t.toArray⟩ 0 s.length 1 with
      | i :: _ => k (.d (.int (i : Nat))) env
      | [] => False
    | _, _ => False
  | _ => False
theorem md_index : MtD X (fun x xs H Q => ∃ a b i rest, x = .str a ∧ xs = [.str b] ∧ Builtin.Str.occurrences a b 0 a.length 1 = i :: rest ∧ Q (.int (i : Nat)) H) mIndex := fun z stk vs env σ H Q k wo vo ws us ok r l u q => by
  unfold mIndex at u
  split at u
  · rename_i w
    cases us with
    | nil => cases l
    | cons v us =>
      cases us with
      | cons _ _ => cases l
      | nil =>
        split at u
        · rename_i s t h1 h2
          have e2 := pkS_v r h2
          have e1 := pkS_v (Rel.pop r) h1
          subst e1 e2
          split at u
          · rename_i j rest ho
            refine ⟨_, _, j, rest, rfl, rfl, ?_, q _ _ _ _ (Rel.pop (Rel.pop r)).pushInt u⟩
            rw [str_len]; exact ho
          · exact u.elim
        · exact u.elim
  · exact u.elim
end
end DL

/-! DL16: the rules by checks. -/
namespace DL
open PySem PySem.Spec
open PyProof.Rows L2
theorem pl_name {x : Str} {p} : Pl (.Name x p) := ⟨fun _ _ => rfl, fun _ => rfl, fun _ _ => rfl, fun _ _ => rfl⟩
theorem pl_con {x i p} : Pl (.Constant x i p) := ⟨fun _ _ => rfl, fun _ => rfl, fun _ _ => rfl, fun _ _ => rfl⟩
theorem pl_call {f a k p} : Pl (.Call f a k p) := ⟨fun _ _ => rfl, fun _ => rfl, fun _ _ => rfl, fun _ _ => rfl⟩
theorem pl_bin {a o b p} : Pl (.BinOp a o b p) := ⟨fun _ _ => rfl, fun _ => rfl, fun _ _ => rfl, fun _ _ => rfl⟩
theorem pl_un {o b p} : Pl (.UnaryOp o b p) := ⟨fun _ _ => rfl, fun _ => rfl, fun _ _ => rfl, fun _ _ => rfl⟩
theorem pl_bool {o b p} : Pl (.BoolOp o b p) := ⟨fun _ _ => rfl, fun _ => rfl, fun _ _ => rfl, fun _ _ => rfl⟩
theorem pl_cmp {a o b p} : Pl (.Compare a o b p) := ⟨fun _ _ => rfl, fun _ => rfl, fun _ _ => rfl, fun _ _ => rfl⟩
theorem pl_sub {a b p} : Pl (.Subscript a b p) := ⟨fun _ _ => rfl, fun _ => rfl, fun _ _ => rfl, fun _ _ => rfl⟩
theorem pl_att {a b p} : Pl (.Attribute a b p) := ⟨fun _ _ => rfl, fun _ => rfl, fun _ _ => rfl, fun _ _ => rfl⟩
theorem pl_lst {a p} : Pl (.List a p) := ⟨fun _ _ => rfl, fun _ => rfl, fun _ _ => rfl, fun _ _ => rfl⟩
theorem pl_tup {a k p} : Pl (.Tuple a k p) := ⟨fun _ _ => rfl, fun _ => rfl, fun _ _ => rfl, fun _ _ => rfl⟩
theorem pl_ite {a b c p} : Pl (.IfExp a b c p) := ⟨fun _ _ => rfl, fun _ => rfl, fun _ _ => rfl, fun _ _ => rfl⟩
theorem pl_lc {a b c p} : Pl (.ListComp a b c p) := ⟨fun _ _ => rfl, fun _ => rfl, fun _ _ => rfl, fun _ _ => rfl⟩
theorem pl_dict {a b p} : Pl (.Dict a b p) := ⟨fun _ _ => rfl, fun _ => rfl, fun _ _ => rfl, fun _ _ => rfl⟩
theorem pl_js {a p} : Pl (.JoinedStr a p) := ⟨fun _ _ => rfl, fun _ => rfl, fun _ _ => rfl, fun _ _ => rfl⟩
theorem pls_nil : Pls [] := fun _ h => nomatch h
theorem pls_cons {e : Expr} {es : List Expr} (h : Pl e) (r : Pls es) : Pls (e :: es) := fun x m => (List.mem_cons.mp m).elim (fun q => q ▸ h) (r x)
theorem tr_name {x : Str} {p} : Tr (.Name x p) := fun _ _ => rfl
theorem tr_con {x i p} : Tr (.Constant x i p) := fun _ _ => rfl
theorem tr_call {f a k p} : Tr (.Call f a k p) := fun _ _ => rfl
theorem tr_bin {a o b p} : Tr (.BinOp a o b p) := fun _ _ => rfl
theorem tr_sub {a b p} : Tr (.Subscript a b p) := fun _ _ => rfl
theorem tr_att {a b p} : Tr (.Attribute a b p) := fun _ _ => rfl
theorem tg_name {x : Str} {p} : TgPl (.Name x p) := fun _ _ => rfl
theorem tg_sub {a b p} : TgPl (.Subscript a b p) := fun _ _ => rfl
theorem tg_att {a b p} : TgPl (.Attribute a b p) := fun _ _ => rfl
theorem tg_tup {a k p} : TgPl (.Tuple a k p) := fun _ _ => rfl
theorem tgs_nil : TgPls [] := fun _ h => nomatch h
theorem tgs_cons {e : Expr} {es : List Expr} (h : TgPl e) (r : TgPls es) : TgPls (e :: es) := fun x m => (List.mem_cons.mp m).elim (fun q => q ▸ h) (r x)
/-! checks -/
def visB (sc : Scope) (x : Str) : Bool := match sc.names.lookup x with
  | some .local => true
  | some .cell => true
  | some .free => true
  | _ => false
def varC (N : List Str) (sc : Scope) (i : Nat) (x : Str) : Bool := (N[i]? == some x) && (visB sc x && (!(x == ("__debug__" : Str)) && !(x == ("__classdict__" : Str))))
def tgC (N : List Str) (sc : Scope) (fs : Option Scope) (i : Nat) (x : Str) : Bool := (N[i]? == some x) && ((sc.names.lookup x == some .local) || ((sc.names.lookup x == some .cell) && (fs.elim true fun s => s.names.lookup x == some .cell)))
def glC (sc : Scope) (x : Str) : Bool := (sc.names.lookup x == some .globalImplicit) && (!(x == ("__debug__" : Str)) && !(x == ("__name__" : Str)))
theorem visB_ok {sc : Scope} {x : Str} (h : visB sc x = true) : Vis sc x := by
  unfold visB at h
  split at h
  · rename_i e; exact .inl e
  · rename_i e; exact .inr (.inl e)
  · rename_i e; exact .inr (.inr e)
  · cases h
theorem bnot {b : Bool} (h : (!b) = true) : b = false := by cases b <;> first | rfl | cases h
section
variable {X : Cx} {N : List Str} {sc : Scope} {fs : Option Scope} {k : Nat} {e a b c o : Expr} {ta tb tc to : DTE} {tr : DTA} {es : List Expr} {pos p apos : Pos} {x : Str} {i : Nat}
theorem FX.var (h : FX N sc fs k X) (hc : varC N sc i x = true) : DE X (.Name x pos) (dVar i) := by
  obtain ⟨h1, h2⟩ := band hc
  obtain ⟨h2, h3⟩ := band h2
  obtain ⟨h3, h4⟩ := band h3
  exact de_var (by rw [h.n]; exact eq_of_beq h1) (by rw [h.sc]; exact visB_ok h2) (bnot h3) (bnot h4)
theorem FX.mov (h : FX N sc fs k X) (hc : varC N sc i x = true) : DE X (.Name x pos) (dMov i) := by
  obtain ⟨h1, h2⟩ := band hc
  obtain ⟨h2, h3⟩ := band h2
  obtain ⟨h3, h4⟩ := band h3
  exact de_mov (by rw [h.n]; exact eq_of_beq h1) (by rw [h.sc]; exact visB_ok h2) (bnot h3) (bnot h4)
theorem FX.tg (h : FX N sc fs k X) (hc : tgC N sc fs i x = true) : DG X (.Name x pos) [i] (gN i) := by
  obtain ⟨h1, h2⟩ := band hc
  have hN : X.N[i]? = some x := by rw [h.n]; exact eq_of_beq h1
  rcases Bool.or_eq_true_iff.mp h2 with h2 | h2
  · have e : X.env.scope.names.lookup x = some .local := by rw [h.sc]; exact eq_of_beq h2
    exact dg_name h.nd hN (.inl e) (.inr e)
  · obtain ⟨h2, h3⟩ := band h2
    have e : X.env.scope.names.lookup x = some .cell := by rw [h.sc]; exact eq_of_beq h2
    exact dg_name h.nd hN (.inr e) (.inl (h.fn x h3))
theorem FX.gl (h : FX N sc fs k X) (hc : glC sc x = true) : Gl X x ∧ (x == ("__debug__" : Str)) = false ∧ x ≠ "__name__" := by
  obtain ⟨h1, h2⟩ := band hc
  obtain ⟨h2, h3⟩ := band h2
  refine ⟨?_, bnot h2, fun e => ?_⟩
  · show X.env.scope.names.lookup x = some .globalImplicit
    rw [h.sc]; exact eq_of_beq h1
  · have := bnot h3
    rw [e] at this
    exact absurd this (by decide)
theorem FX.gstr (h : FX N sc fs k X) (hc : glC sc x = true) {s : Str} (hm : ∃ t, X.mg x = some (.str s t)) : DE X (.Name x pos) (dC (.str s.cps.toList)) := by
  obtain ⟨h1, h2, h3⟩ := h.gl hc
  obtain ⟨t, hm⟩ := hm
  refine de_glob (u := .str s t) (v := .str s) h1 hm ⟨t, rfl⟩ (fun z _ G => ?_) h2
  show V.str s = V.str ⟨s.cps.toList.toArray⟩
  cases s; rfl
theorem FX.gint (h : FX N sc fs k X) (hc : glC sc x = true) {s : Int} (hm : ∃ t, X.mg x = some (.int s t)) : DE X (.Name x pos) (dC (.int s)) := by
  obtain ⟨h1, h2, h3⟩ := h.gl hc
  obtain ⟨t, hm⟩ := hm
  exact de_glob (u := .int s t) (v := .int s) h1 hm ⟨t, rfl⟩ (fun z _ G => rfl) h2
theorem FX.ty {n : String} (h : FX N sc fs k X) (hc : glC sc x = true) (hm : X.mg x = none) (hv : bootBuiltins x = some (.type n)) : DE X (.Name x pos) (dC (.ty n)) := by
  obtain ⟨h1, h2, h3⟩ := h.gl hc
  exact de_bltn h1 hm hv h3 h2
/-! operations -/
theorem FX.cmp (h : FX N sc fs k X) (op : CmpOp) (hb' : Pl b) (ha : DE X a ta) (hb : DE X b tb) : DE X (.Compare a [op] [b] pos) (dOp (sCmp op) ta tb) := de_cmp h.room.units op (hb'.mark op) ha hb
theorem FX.tcmp (h : FX N sc fs k X) (op : CmpOp) (hb' : Pl b) (ha : DE X a ta) (hb : DE X b tb) : DT X (.Compare a [op] [b] pos) (dBl (dOp (sCmp op) ta tb)) := dt_cmp h.room.units op (hb'.mark op) ha hb
theorem pl_last {op op' : CmpOp} (h : Pl c) : lastMarks [op, op'] [b, c] = false := h.mark op'
theorem FX.chn (h : FX N sc fs k X) (op op' : CmpOp) (hb' : Pl c) (ha : DE X a ta) (hb : DE X b tb) (hc : DE X c tc) : DE X (.Compare a [op, op'] [b, c] pos) (dChn op op' ta tb tc) := de_chn h.room.units op op' (pl_last hb') ha hb hc
theorem FX.tchn (h : FX N sc fs k X) (op op' : CmpOp) (hb' : Pl c) (ha : DE X a ta) (hb : DE X b tb) (hc : DE X c tc) : DT X (.Compare a [op, op'] [b, c] pos) (dBl (dChn op op' ta tb tc)) := dt_chn h.room.units op op' (pl_last hb') ha hb hc
/-! built-in functions -/
section
variable {r : List V → Hp → VK → Prop} {s : DCl} {id T : String}
theorem FX.bl (h : FX N sc fs k X) (hc : glC sc x = true) (hm : X.mg x = none) (hv : bootBuiltins x = some (.builtin id)) (hr : CallR X (.builtin id) r) (hd : CallD X r s) (hp : Pls (e :: es)) (ha : DA X (e :: es) tr) : DE X (.Call (.Name x p) (e :: es) [] pos) (dCl s tr) := by
  obtain ⟨h1, h2, h3⟩ := h.gl hc
  exact de_callB hr hd h1 hm hv h3 h2 hp ha
theorem FX.bt (h : FX N sc fs k X) (hc : glC sc x = true) (hm : X.mg x = none) (hv : bootBuiltins x = some (.type T)) (hr : CallR X (.type T) r) (hd : CallD X r s) (hp : Pls (e :: es)) (ha : DA X (e :: es) tr) : DE X (.Call (.Name x p) (e :: es) [] pos) (dCl s tr) := by
  obtain ⟨h1, h2, h3⟩ := h.gl hc
  exact de_callT hr hd h1 hm hv h3 h2 hp ha
end
theorem b_len : bootBuiltins "len" = some (.builtin "len") := by decide +kernel
theorem b_int : bootBuiltins "int" = some (.type "int") := by decide +kernel
theorem b_str : bootBuiltins "str" = some (.type "str") := by decide +kernel
theorem b_list : bootBuiltins "list" = some (.type "list") := by decide +kernel
theorem b_tuple : bootBuiltins "tuple" = some (.type "tuple") := by decide +kernel
theorem b_bool : bootBuiltins "bool" = some (.type "bool") := by decide +kernel
theorem b_dict : bootBuiltins "dict" = some (.type "dict") := by decide +kernel
theorem b_repr : bootBuiltins "repr" = some (.builtin "repr") := by decide +kernel
theorem b_abs : bootBuiltins "abs" = some (.builtin "abs") := by decide +kernel
theorem b_max : bootBuiltins "max" = some (.builtin "max") := by decide +kernel
theorem b_min : bootBuiltins "min" = some (.builtin "min") := by decide +kernel
theorem b_sum : bootBuiltins "sum" = some (.builtin "sum") := by decide +kernel
theorem b_all : bootBuiltins "all" = some (.builtin "all") := by decide +kernel
theorem b_any : bootBuiltins "any" = some (.builtin "any") := by decide +kernel
theorem b_isi : bootBuiltins "isinstance" = some (.builtin "isinstance") := by decide +kernel
theorem FX.len (h : FX N sc fs k X) (hc : glC sc "len" = true) (hm : X.mg "len" = none) (hp : Pls (e :: es)) (ha : DA X (e :: es) tr) : DE X (.Call (.Name "len" p) (e :: es) [] pos) (dCl (s1 kLenN) tr) := h.bl hc hm b_len call_len cd_len hp ha
theorem FX.int (h : FX N sc fs k X) (hc : glC sc "int" = true) (hm : X.mg "int" = none) (hp : Pls (e :: es)) (ha : DA X (e :: es) tr) : DE X (.Call (.Name "int" p) (e :: es) [] pos) (dCl (s1 kInt) tr) := h.bt hc hm b_int call_intA cd_int hp ha
theorem FX.str (h : FX N sc fs k X) (hc : glC sc "str" = true) (hm : X.mg "str" = none) (hp : Pls (e :: es)) (ha : DA X (e :: es) tr) : DE X (.Call (.Name "str" p) (e :: es) [] pos) (dCl (s1 kStr) tr) := h.bt hc hm b_str call_strA cd_str hp ha
theorem FX.repr (h : FX N sc fs k X) (hc : glC sc "repr" = true) (hm : X.mg "repr" = none) (hp : Pls (e :: es)) (ha : DA X (e :: es) tr) : DE X (.Call (.Name "repr" p) (e :: es) [] pos) (dCl (s1 kRepr) tr) := h.bl hc hm b_repr call_reprA cd_repr hp ha
theorem FX.abs (h : FX N sc fs k X) (hc : glC sc "abs" = true) (hm : X.mg "abs" = none) (hp : Pls (e :: es)) (ha : DA X (e :: es) tr) : DE X (.Call (.Name "abs" p) (e :: es) [] pos) (dCl (s1 kAbs) tr) := h.bl hc hm b_abs call_abs cd_abs hp ha
theorem FX.max2 (h : FX N sc fs k X) (hc : glC sc "max" = true) (hm : X.mg "max" = none) (hp : Pls (e :: es)) (ha : DA X (e :: es) tr) : DE X (.Call (.Name "max" p) (e :: es) [] pos) (dCl (s2 (kI2 fun i j => if j > i then j else i)) tr) := h.bl hc hm b_max (call_max2 h.calm) cd_i2 hp ha
theorem FX.min2 (h : FX N sc fs k X) (hc : glC sc "min" = true) (hm : X.mg "min" = none) (hp : Pls (e :: es)) (ha : DA X (e :: es) tr) : DE X (.Call (.Name "min" p) (e :: es) [] pos) (dCl (s2 (kI2 fun i j => if j < i then j else i)) tr) := h.bl hc hm b_min (call_min2 h.calm) cd_i2 hp ha
theorem FX.list (h : FX N sc fs k X) (hc : glC sc "list" = true) (hm : X.mg "list" = none) (hp : Pls (e :: es)) (ha : DA X (e :: es) tr) : DE X (.Call (.Name "list" p) (e :: es) [] pos) (dCl (s1 kListOf) tr) := h.bt hc hm b_list call_list_of cd_list hp ha
theorem FX.tuple (h : FX N sc fs k X) (hc : glC sc "tuple" = true) (hm : X.mg "tuple" = none) (hp : Pls (e :: es)) (ha : DA X (e :: es) tr) : DE X (.Call (.Name "tuple" p) (e :: es) [] pos) (dCl (s1 kTupOf) tr) := h.bt hc hm b_tuple call_tuple_of cd_tuple hp ha
theorem FX.sum (h : FX N sc fs k X) (hc : glC sc "sum" = true) (hm : X.mg "sum" = none) (hp : Pls (e :: es)) (ha : DA X (e :: es) tr) : DE X (.Call (.Name "sum" p) (e :: es) [] pos) (dCl (s1 (kInts fun ns q => q (.int ns.sum))) tr) := h.bl hc hm b_sum (cr_sum h.calm) cd_sum hp ha
theorem FX.max1 (h : FX N sc fs k X) (hc : glC sc "max" = true) (hm : X.mg "max" = none) (hp : Pls (e :: es)) (ha : DA X (e :: es) tr) : DE X (.Call (.Name "max" p) (e :: es) [] pos) (dCl (s1 (kInts fun ns q => ns ≠ [] ∧ ∀ m, m ∈ ns → (∀ y ∈ ns, y ≤ m) → q (.int m))) tr) := h.bl hc hm b_max (cr_max h.calm) cd_max1 hp ha
theorem FX.min1 (h : FX N sc fs k X) (hc : glC sc "min" = true) (hm : X.mg "min" = none) (hp : Pls (e :: es)) (ha : DA X (e :: es) tr) : DE X (.Call (.Name "min" p) (e :: es) [] pos) (dCl (s1 (kInts fun ns q => ns ≠ [] ∧ ∀ m, m ∈ ns → (∀ y ∈ ns, m ≤ y) → q (.int m))) tr) := h.bl hc hm b_min (cr_min h.calm) cd_min1 hp ha
theorem FX.all (h : FX N sc fs k X) (hc : glC sc "all" = true) (hm : X.mg "all" = none) (hp : Pls (e :: es)) (ha : DA X (e :: es) tr) : DE X (.Call (.Name "all" p) (e :: es) [] pos) (dCl (s1 (kBls fun bs => bs.all id)) tr) := h.bl hc hm b_all (cr_all h.calm) cd_bls hp ha
theorem FX.any (h : FX N sc fs k X) (hc : glC sc "any" = true) (hm : X.mg "any" = none) (hp : Pls (e :: es)) (ha : DA X (e :: es) tr) : DE X (.Call (.Name "any" p) (e :: es) [] pos) (dCl (s1 (kBls fun bs => bs.any id)) tr) := h.bl hc hm b_any (cr_any h.calm) cd_bls hp ha
theorem FX.isi (h : FX N sc fs k X) (hc : glC sc "isinstance" = true) (hm : X.mg "isinstance" = none) (hp : Pls (e :: es)) (ha : DA X (e :: es) tr) : DE X (.Call (.Name "isinstance" p) (e :: es) [] pos) (dCl (s2 kIsi) tr) := h.bl hc hm b_isi call_isi cd_isi hp ha
/-! own defs -/
theorem FX.call {ps : List Str} {j : Nat} {s : DSp} (h : FX N sc fs k X) (F : DFn X.prog X.w X.K X.mg X.base x ps j s) (hj : Nat.ble j k = true) (hc : glC sc x = true) (hp : Pls (e :: es)) (ha : DA X (e :: es) tr) : DE X (.Call (.Name x p) (e :: es) [] pos) (dCall ps.length s tr) := by
  obtain ⟨h1, h2, h3⟩ := h.gl hc
  exact de_call h F (Nat.le_of_ble_eq_true hj) h1 h2 hp ha
theorem FX.call0 {j : Nat} {s : DSp} (h : FX N sc fs k X) (F : DFn X.prog X.w X.K X.mg X.base x [] j s) (hj : Nat.ble j k = true) (hc : glC sc x = true) : DE X (.Call (.Name x p) [] [] pos) (dCall0 s) := by
  obtain ⟨h1, h2, h3⟩ := h.gl hc
  exact de_call0 h F (Nat.le_of_ble_eq_true hj) h1 h2
/-! methods -/
def bmC (apos pos : Pos) (es : List Expr) : Bool := (apos.endLine == pos.line) && decide (es.length < 20)
section
variable {r : V → List V → Hp → VK → Prop} {s : W → DCl} {id T : String} {name : Str}
theorem FX.bm (h : FX N sc fs k X) (pa : PlainAttrs T) (slot : Slot T name id) (hty : typeOf (.builtin id) = pure (.type "method_descriptor")) (hm : MtR X id r) (hd : MtD X r s) (hbase : attributeBase o name X.env (eval o X.env) = eval o X.env) (hc : bmC apos pos es = true) (hp : Pls (e :: es)) (ho : DE X o to) (ha : DA X (e :: es) tr) :
    DE X (.Call (.Attribute o name apos) (e :: es) [] pos) (dBm T s to tr) := by
  obtain ⟨h1, h2⟩ := band hc
  exact de_bm pa slot hty hm hd hbase h1 (of_decide_eq_true h2) hp ho ha
theorem FX.bm0 (h : FX N sc fs k X) (pa : PlainAttrs T) (slot : Slot T name id) (hty : typeOf (.builtin id) = pure (.type "method_descriptor")) (hm : MtR X id r) (hd : MtD X r s) (hbase : attributeBase o name X.env (eval o X.env) = eval o X.env) (hc : bmC apos pos [] = true) (ho : DE X o to) :
    DE X (.Call (.Attribute o name apos) [] [] pos) (dBm T s to dNil) := by
  obtain ⟨h1, h2⟩ := band hc
  exact de_bm0 pa slot hty hm hd hbase h1 ho
end
/-- what no 'super()' is -/
def Ab (o : Expr) : Prop := ∀ name env, attributeBase o name env (eval o env) = eval o env
theorem ab_name {x : Str} {p} : Ab (.Name x p) := fun _ _ => rfl
theorem ab_con {x i p} : Ab (.Constant x i p) := fun _ _ => rfl
theorem ab_sub {a b p} : Ab (.Subscript a b p) := fun _ _ => rfl
theorem ab_att {a b p} : Ab (.Attribute a b p) := fun _ _ => rfl
theorem ab_bin {a o b p} : Ab (.BinOp a o b p) := fun _ _ => rfl
theorem FX.app (h : FX N sc fs k X) (hb : Ab o) (hc : bmC apos pos es = true) (hp : Pls (e :: es)) (ho : DE X o to) (ha : DA X (e :: es) tr) : DE X (.Call (.Attribute o "append" apos) (e :: es) [] pos) (dBm "list" mApp to tr) := h.bm F.plainAttrs_list F.slot_list_append F.type_list_append mt_append md_app (hb _ _) hc hp ho ha
theorem FX.ext (h : FX N sc fs k X) (hb : Ab o) (hc : bmC apos pos es = true) (hp : Pls (e :: es)) (ho : DE X o to) (ha : DA X (e :: es) tr) : DE X (.Call (.Attribute o "extend" apos) (e :: es) [] pos) (dBm "list" mExt to tr) := h.bm F.plainAttrs_list F.slot_list_extend F.type_list_extend mt_extend md_ext (hb _ _) hc hp ho ha
theorem FX.pop (h : FX N sc fs k X) (hb : Ab o) (hc : bmC apos pos [] = true) (ho : DE X o to) : DE X (.Call (.Attribute o "pop" apos) [] [] pos) (dBm "list" mPop to dNil) := h.bm0 F.plainAttrs_list F.slot_list_pop F.type_list_pop mt_pop md_pop (hb _ _) hc ho
theorem FX.join (h : FX N sc fs k X) (hb : Ab o) (hc : bmC apos pos es = true) (hp : Pls (e :: es)) (ho : DE X o to) (ha : DA X (e :: es) tr) : DE X (.Call (.Attribute o "join" apos) (e :: es) [] pos) (dBm "str" mJoin to tr) := h.bm F.plainAttrs_str F.slot_str_join F.type_str_join mt_join md_join (hb _ _) hc hp ho ha
theorem FX.split (h : FX N sc fs k X) (hb : Ab o) (hc : bmC apos pos es = true) (hp : Pls (e :: es)) (ho : DE X o to) (ha : DA X (e :: es) tr) : DE X (.Call (.Attribute o "split" apos) (e :: es) [] pos) (dBm "str" mSplit to tr) := h.bm F.plainAttrs_str F.slot_str_split F.type_str_split mt_split md_split (hb _ _) hc hp ho ha
theorem FX.index (h : FX N sc fs k X) (hb : Ab o) (hc : bmC apos pos es = true) (hp : Pls (e :: es)) (ho : DE X o to) (ha : DA X (e :: es) tr) : DE X (.Call (.Attribute o "index" apos) (e :: es) [] pos) (dBm "str" mIndex to tr) := h.bm F.plainAttrs_str F.slot_str_index F.type_str_index mt_sindex md_index (hb _ _) hc hp ho ha
/-! iterations -/
theorem FX.rng1 {tg : Expr} (h : FX N sc fs k X) (hc : glC sc "range" = true) (hm : X.mg "range" = none) (hp : Pl a) (ha : DE X a ta) : DI X tg (.Call (.Name "range" p) [a] [] pos) (dRng1 ta) := di_rng1 (h.gl hc).1 hm hp ha
theorem FX.rng2 {tg : Expr} (h : FX N sc fs k X) (hc : glC sc "range" = true) (hm : X.mg "range" = none) (hp : Pl a) (hp2 : Pl b) (ha : DE X a ta) (hb : DE X b tb) : DI X tg (.Call (.Name "range" p) [a, b] [] pos) (dRng2 ta tb) := di_rng2 (h.gl hc).1 hm hp hp2 ha hb
/-! statements -/
theorem FX.asg {tg : Expr} {g : DTG} {sl : List Nat} (h1 : swapsWithSole [tg] e pos.line X.env = pure false) (h2 : swappedStores [tg] e X.env = pure none) (h3 : TgPl tg) (he : DE X e ta) (hg : DG X tg sl g) : DS X (.Assign [tg] e pos) (dAsg ta g) := ds_asg h1 h2 h3 he hg
theorem FX.for_ {tg iter : Expr} {body : List Stmt} {ti : DTI} {g : DTG} {tb : DTS} {sl : List Nat} (h : FX N sc fs k X) (hp : PassesOwn (model X.prog X.w) X.A X.env X.xe) (hf : Pl iter) (hi : DI X tg iter ti) (hg : DG X tg sl g) (hb : DSs X body tb) : DS X (.For tg iter body [] pos) (dFor ti g tb) := ds_for hp h.calm (fun x => hf.fold _ x) hi hg hb
/-- comprehensions -/
def subB (sl : List Nat) (own : List (Str × Nat)) : Bool := sl.all fun i => (own.map (·.2)).contains i
theorem subB_ok {sl : List Nat} {own : List (Str × Nat)} (h : subB sl own = true) : ∀ i ∈ sl, i ∈ own.map (·.2) := fun i m => by
  have := List.all_eq_true.mp h i m
  simpa using this
theorem FX.comp {elt tg iter : Expr} {ifs : List Expr} {scope : Scope} {own : List (Str × Nat)} {ti : DTI} {g : DTG} {tt : DTT} {te : DTE} {sl : List Nat} (h : FX N sc fs k X) (ok : blkC N sc scope own = true) (hsl : subB sl own = true) (hf : Pl iter) (hi : DI X tg iter ti)
    (hb : ∀ Y, FX N (relS scope sc) (some scope) k Y → Y.prog = X.prog → Y.w = X.w → Y.K = X.K → Y.mg = X.mg → Y.base = X.base → DG Y tg sl g ∧ DTs Y ifs tt ∧ DE Y elt te) :
    DE X (.ListComp elt [⟨tg, iter, ifs, 0⟩] scope pos) (dComp (own.map (·.2)) ti g tt te) :=
  de_comp h.calm h.nd (by rw [h.n, h.sc]; exact blkOk_by ok) (subB_ok hsl) hi (fun s H C cl fp => (hb _ (h.blk s H C cl fp) rfl rfl rfl rfl rfl).1) (fun s H C cl fp => (hb _ (h.blk s H C cl fp) rfl rfl rfl rfl rfl).2.1) (fun s H C cl fp => (hb _ (h.blk s H C cl fp) rfl rfl rfl rfl rfl).2.2) fun x => hf.fold _ x
def swC (sc : Scope) (y : Str) (py pos : Pos) (scope : Scope) : Bool := (if sc.kind.isAnnotationScope then ScopeKind.function else sc.kind) == .function && sc.names.lookup y == some .local && py.line == pos.line && !(scope.names.any fun (n, k) => n == y && (k == .local || k == .cell))
theorem FX.asgC {y : Str} {py spos : Pos} {elt tg iter : Expr} {ifs : List Expr} {scope : Scope} {own : List (Str × Nat)} {ti : DTI} {g : DTG} {tt : DTT} {te : DTE} {sl : List Nat} (h : FX N sc fs k X) (hy : tgC N sc fs i y = true) (hyl : (sc.names.lookup y == some .local) = true)
    (hsw : swC sc y py pos scope = true) (ok : blkC N sc scope own = true) (hsl : subB sl own = true) (hf : Pl iter) (hi : DI X tg iter ti)
    (hb : ∀ Y, FX N (relS scope sc) (some scope) k Y → Y.prog = X.prog → Y.w = X.w → Y.K = X.K → Y.mg = X.mg → Y.base = X.base → DG Y tg sl g ∧ DTs Y ifs tt ∧ DE Y elt te) :
    DS X (.Assign [.Name y py] (.ListComp elt [⟨tg, iter, ifs, 0⟩] scope pos) spos) (dAsg (dComp (own.map (·.2)) ti g tt te) (gN i)) := by
  have sw : swapsWith (.ListComp elt [⟨tg, iter, ifs, 0⟩] scope pos) (some (.Name y py)) spos.line X.env = pure true := by
    show (pure ((if X.env.scope.kind.isAnnotationScope then ScopeKind.function else X.env.scope.kind) == .function && X.env.scope.names.lookup y == some .local && py.line == pos.line && !(scope.names.any fun (n, k) => n == y && (k == .local || k == .cell))) : Sem Bool) = pure true
    rw [h.sc]
    exact congrArg pure hsw
  exact ds_asgC h.calm h.nd (by rw [h.n]; exact eq_of_beq (band hy).1) (by rw [h.sc]; exact eq_of_beq hyl) sw (by rw [h.n, h.sc]; exact blkOk_by ok) (subB_ok hsl) hi (fun s H C cl fp => (hb _ (h.blk s H C cl fp) rfl rfl rfl rfl rfl).1) (fun s H C cl fp => (hb _ (h.blk s H C cl fp) rfl rfl rfl rfl rfl).2.1) (fun s H C cl fp => (hb _ (h.blk s H C cl fp) rfl rfl rfl rfl rfl).2.2) (fun x => hf.fold _ x) (h.tg hy)
theorem DFn.on {Y : Cx} {ps : List Str} {s : DSp} (F : DFn X.prog X.w X.K X.mg X.base x ps k s) (h1 : Y.prog = X.prog) (h2 : Y.w = X.w) (h3 : Y.K = X.K) (h4 : Y.mg = X.mg) (h5 : Y.base = X.base) : DFn Y.prog Y.w Y.K Y.mg Y.base x ps k s := by
  rw [h1, h2, h3, h4, h5]; exact F
end
end DL

/-! DL17: the store: taking from it; a law that makes one. -/
namespace DL
open PySem PySem.Spec
open PyProof.Rows L2
def goodS (ws : List W) : Prop := ∃ (xs : List D) (p g f r c : Int), ws = [.d (.cel xs), .d (.int p), .d (.int g), .d (.int f), .d (.int r), .d (.int c)] ∧ (∀ x ∈ xs, cellOk x) ∧ 0 ≤ p ∧ 0 ≤ g ∧ 0 ≤ r ∧ r < 2147483647
def S_take : DSp := fun ws k _ => ∃ m : Int, ws = [.sto, .d (.int m)] ∧ 1 ≤ m ∧ m < 1073741824 ∧ ∀ i : Int, 0 ≤ i → i < m → k (.d (.int i))
def takeE (m : Int) : DEnds := { nx := fun _ => False, rt := fun w e => ∃ i ws, peek e w = some (.d (.int i)) ∧ 0 ≤ i ∧ i < m ∧ e[0]? = some (some (.oL ws)) ∧ goodS ws }
section
variable {P : Program} {w : World} {K : PySem.W.Frag} {mg : Str → Option Value} {base : Heap} {x qual : Str} {params : Arguments} {body : List Stmt} {scope : Scope} {dvs : List V} {kws : List (Str × V)} {f : Addr} {fd : FuncData} {N : List Str} {k : Nat} {t : DTS}
/-- what a def's walk gives, at every place -/
def Walk (P : Program) (w : World) (K : PySem.W.Frag) (mg : Str → Option Value) (base : Heap) (N : List Str) (scope : Scope) (k : Nat) (body : List Stmt) (t : DTS) : Prop :=
  ∀ X : Cx, X.prog = P → X.w = w → X.K = K → X.mg = mg → X.base = base → FX N scope none k X → PassesOwn (model X.prog X.w) X.A X.env X.xe → DSs X body t
theorem fnok {qual : Str} {ps : List Str} {s : DSp} (F : FunD K x qual params body scope dvs kws f fd) (S : FnScope N ps scope) (hw : Walk P w K mg base N scope k body t) (hp : ∀ ws k kx, ws.length = ps.length → s ws k kx → t (retE k) (fun x _ => kx x) (startE N ws)) :
    FnOk P w K mg base (L2N.CX P w) (k + 1) f fd ps (toSp K mg ps.length s) := fnok_of F S (fun cdv A outer s H E h ho => hw _ rfl rfl rfl rfl rfl h ho) hp
theorem fnok_take (F : FunD K x qual params body scope dvs kws f fd) (S : FnScope N ["store", "many"] scope) (hw : Walk P w K mg base N scope k body t)
    (hp : ∀ m ws, 1 ≤ m → m < 1073741824 → goodS ws → t (takeE m) (fun _ _ => False) (startE N [.oL ws, .d (.int m)])) : FnOk P w K mg base (L2N.CX P w) (k + 1) f fd ["store", "many"] (toSp K mg 2 S_take) := by
  refine FunD.ok F S (fun vs H Q E h => h.1) fun cdv A outer s0 H vs Q E hr h => ?_
  obtain ⟨l, z, ws, k1, kx, e1, e2, e3, e4, aw, rw_, c, ⟨m, ew, m1, m2, hs⟩, hk, hx⟩ := h
  subst ew
  have px : PassesOwn (model P w) (cxOf (L2N.CX P w) P w K mg base N qual scope f cdv A outer s0 H E).A (cxOf (L2N.CX P w) P w K mg base N qual scope f cdv A outer s0 H E).env (cxOf (L2N.CX P w) P w K mg base N qual scope f cdv A outer s0 H E).xe := PassesOwn.leaving
  obtain ⟨ts, p, fm⟩ := hw (cxOf (L2N.CX P w) P w K mg base N qual scope f cdv A outer s0 H E) rfl rfl rfl rfl rfl ⟨rfl, S.nd, rfl, fun _ _ => rfl, rfl, hr⟩ px _ (L2N.takes_of (X := cxOf (L2N.CX P w) P w K mg base N qual scope f cdv A outer s0 H E) (E := E) rfl rfl rfl rfl)
  refine ⟨ts, p, ?_⟩
  obtain ⟨v1, vs1, b1, b2, ev, eb, ⟨q1, s, zs, es⟩, v2, vs2, b3, b4, ev2, eb2, ⟨q3, q4⟩, q5, q6⟩ := rw_
  subst ev ev2 es q5
  obtain ⟨pp, g, ff, r, cc, u, xs, h1, h2, h3, h4, h5⟩ := c.sto e3 s zs
  have q4 : v2 = .int m := q4
  subst q4
  let z' : Z := { z with s := none, ex := none, pin := some s, H0 := fun b => if b = s then none else H b }
  have lk : z.like z' := ⟨rfl, rfl, fun _ h => h⟩
  have kl : z'.like z := ⟨rfl, rfl, fun _ h => h⟩
  have sG : z.G0 s = none := (c.sH s zs).1
  have hr0 : RepW z' z.G0 H (.oL [.d (.cel xs), .d (.int pp), .d (.int g), .d (.int ff), .d (.int r), .d (.int cc)]) (.ref s) [s] := by
    refine ⟨s, _, [], rfl, rfl, rfl, h2, u, _, [], [], rfl, rfl, ⟨rfl, Rep.like lk h4⟩, .int pp, _, [], [], rfl, rfl, ⟨rfl, rfl⟩, .int g, _, [], [], rfl, rfl, ⟨rfl, rfl⟩, .int ff, _, [], [], rfl, rfl, ⟨rfl, rfl⟩, .int r, _, [], [], rfl, rfl, ⟨rfl, rfl⟩, .int cc, _, [], [], rfl, rfl, ⟨rfl, rfl⟩, rfl, rfl⟩
  have c0 : Core z' z.G0 H := by
    refine ⟨Same.refl _, c.gh, fun b o e _ => ?_, fun b h => .inl h, fun s h => (by cases h), fun i h => (by cases h), fun _ s h => (by cases h)⟩
    have e : (if b = s then none else H b) = some o := e
    by_cases hb : b = s
    · rw [if_pos hb] at e; cases e
    · rw [if_neg hb] at e; exact e
  have rel0 : Rel z' [] [] (startE N [.oL [.d (.cel xs), .d (.int pp), .d (.int g), .d (.int ff), .d (.int r), .d (.int cc)], .d (.int m)]) (start N [.ref s, .int m]) H := by
    refine ⟨z.G0, [], [s], ⟨rfl, rfl⟩, ?_, by simp, fun a ma => ?_, c0⟩
    · exact repe_start (ws := [.oL _, .d (.int m)]) (vs := [.ref s, .int m]) ⟨.ref s, _, [s], [], rfl, rfl, hr0, .int m, [], [], [], rfl, rfl, ⟨rfl, rfl⟩, rfl, rfl⟩
    · have ea : a = s := by simpa using ma
      subst ea
      exact ⟨sG, .inl (if_pos rfl)⟩
  refine fm z' [] [] _ _ H _ (takeE m) (fun _ _ => False) ⟨e1, e2, e3⟩ rfl rel0 (hp m _ m1 m2 ⟨xs, pp, g, ff, r, cc, rfl, h5, h3⟩) ⟨fun _ _ _ _ h => h.elim, fun w1 env v σ H' rl hh => ?_, fun _ _ _ _ h => h, fun _ _ _ _ h => h, fun _ _ _ _ _ _ _ h => h.elim⟩
  obtain ⟨i, ws2, pk, i0, im, e0, xs2, p2, g2, f2, r2, c2, ews, good, b2⟩ := hh
  subst ews
  have ev : v = .int i := rd_int (rl.look pk)
  subst ev
  obtain ⟨G', as, bs, _, re, _, _, c'⟩ := rl
  obtain ⟨v0, d1, d2, d3, _, _, rr, _⟩ := re.at_ e0
  obtain ⟨a, us, as', pn, _, _, ha, rws⟩ := rr
  have ea : s = a := Option.some.inj pn
  subst ea
  obtain ⟨u1, us1, _, _, eu1, _, ⟨_, y1, _⟩, u2, us2, _, _, eu2, _, ⟨_, y2⟩, u3, us3, _, _, eu3, _, ⟨_, y3⟩, u4, us4, _, _, eu4, _, ⟨_, y4⟩, u5, us5, _, _, eu5, _, ⟨_, y5⟩, u6, us6, _, _, eu6, _, ⟨_, y6⟩, eu7, _⟩ := rws
  have eu : u1 = u := by
    have y1 : z.sv = some u1 := y1
    rw [h1] at y1; exact (Option.some.inj y1).symm
  have y2 : u2 = .int p2 := y2
  have y3 : u3 = .int g2 := y3
  have y4 : u4 = .int f2 := y4
  have y5 : u5 = .int r2 := y5
  have y6 : u6 = .int c2 := y6
  subst eu eu7 eu6 eu5 eu4 eu3 eu2 eu1 y2 y3 y4 y5 y6
  have keep : ∀ b o, H b = some o → b ≠ s → H' b = some o := fun b o e n => c'.keep b o (show (if b = s then none else H b) = some o by rw [if_neg n]; exact e) (fun q => nomatch q)
  have nG : ∀ {b o}, z.G0 b = some o → b ≠ s := fun {b o} e q => by rw [q, sG] at e; cases e
  refine hk (.d (.int i)) (.int i) H' rfl ⟨z.G0, [], [], ⟨.int i, [], [], [], rfl, rfl, ⟨rfl, rfl⟩, rfl, rfl⟩, ⟨rfl, rfl⟩, List.nodup_nil, fun a m => by simp at m, ?_⟩ (hs i i0 im)
  refine ⟨Same.refl _, fun b o e => keep b o (c.gh b o e) (nG e), fun b o e n => keep b o (e4 ▸ e) fun q => n (by rw [q]; exact zs), fun b h => .inl h, c.sH, fun j hj dx hd => ?_, fun _ s' hs' => ?_⟩
  · obtain ⟨us, k1, k2⟩ := c.xd j hj dx hd
    exact ⟨us, keep dx _ k1 fun q => (by rw [q, h2] at k1; cases k1), k2⟩
  · have es : s = s' := by
      have hs' : z.s = some s' := hs'
      rw [zs] at hs'; exact Option.some.inj hs'
    subst es
    exact ⟨p2, g2, f2, r2, c2, _, xs, h1, ha, b2, h4, h5⟩
/-! a law: its first line makes the store -/
def S_store : DSp := fun ws k _ => ∃ ns : List Int, ws = [.d (.klst (ns.map .int))] ∧ ns.length ≤ 63 ∧ ∀ cs r, (∀ x ∈ cs, cellOk x) → 0 ≤ r → r < 2147483647 → k (.ol [.d (.lst cs), .d (.int 0), .d (.int 0), .d (.int 0), .d (.int r), .d (.int 0)])
def spLaw (K : PySem.W.Frag) : Sp := fun vs H Q _ => ∃ (a : Addr) (ns : List Int), vs = [.ref a] ∧ ns.length ≤ 63 ∧ SqL K H a (ns.map V.int) ∧ ∀ H', Q (.bl true) H'
def trueE : DEnds := { nx := fun _ => False, rt := fun w e => peek e w = some (.d (.bl true)) }
theorem ints_reps {z : Z} {G : Hp} : ∀ {ns : List Int}, Reps z G (ns.map .int) (ns.map V.int)
  | [] => rfl
  | i :: ns => ⟨.int i, _, rfl, rfl, ints_reps⟩
theorem fnok_law {rest : List Stmt} {st : Stmt} {N' : List Str} (eN : N = ("script" : Str) :: ("store" : Str) :: N') (F : FunD K x qual params (st :: rest) scope dvs kws f fd) (S : FnScope N ["script"] scope) (h0 : ∀ X : Cx, X.prog = P → X.w = w → X.K = K → X.mg = mg → X.base = base → FX N scope none k X → DS X st (dAsg (dCall 1 S_store (dCons (dVar 0) dNil)) (gN 1)))
    (hw : Walk P w K mg base N scope k rest t) (hp : ∀ ns : List Int, ns.length ≤ 63 → t trueE (fun _ _ => False) ((startE N [.d (.klst (ns.map .int))]).set 1 (some .sto))) : FnOk P w K mg base (L2N.CX P w) (k + 1) f fd ["script"] (spLaw K) := by
  refine FunD.ok F S (fun vs H Q E ⟨a, ns, e, _⟩ => by rw [e]; rfl) fun cdv A outer s0 H vs Q E hr h => ?_
  obtain ⟨a, ns, ev, ln, sq, hq⟩ := h
  subst ev
  have px : PassesOwn (model P w) (cxOf (L2N.CX P w) P w K mg base N qual scope f cdv A outer s0 H E).A (cxOf (L2N.CX P w) P w K mg base N qual scope f cdv A outer s0 H E).env (cxOf (L2N.CX P w) P w K mg base N qual scope f cdv A outer s0 H E).xe := PassesOwn.leaving
  have fx : FX N scope none k (cxOf (L2N.CX P w) P w K mg base N qual scope f cdv A outer s0 H E) := ⟨rfl, S.nd, rfl, fun _ _ => rfl, rfl, hr⟩
  have tk := L2N.takes_of (X := cxOf (L2N.CX P w) P w K mg base N qual scope f cdv A outer s0 H E) (E := E) rfl rfl rfl rfl
  obtain ⟨t1, p1, f1⟩ := h0 _ rfl rfl rfl rfl rfl fx _ tk
  obtain ⟨t2, p2, f2⟩ := hw _ rfl rfl rfl rfl rfl fx px _ tk
  refine ⟨_, pss_cons p1 p2, ?_⟩
  let z : Z := { K := K, mg := mg, H0 := H, G0 := H, s := none }
  have c0 : Core z H H := ⟨Same.refl _, Same.refl _, fun b o e _ => e, fun b h => .inl h, fun s h => (by cases h), fun i h => (by cases h), fun _ s h => (by cases h)⟩
  have rw0 : RepWs z z.G0 H [.d (.klst (ns.map .int))] [.ref a] [] := ⟨.ref a, [], [], [], rfl, rfl, ⟨rfl, a, _, rfl, sq, ints_reps⟩, rfl, rfl⟩
  have rel0 := rel_start (N := N) rw0 c0
  refine f1 z [] [] _ _ H _ { nx := fun e => ∃ cs r, (∀ x ∈ cs, cellOk x) ∧ 0 ≤ r ∧ r < 2147483647 ∧ e = (startE N [.d (.klst (ns.map .int))]).set 1 (some (.ol [.d (.lst cs), .d (.int 0), .d (.int 0), .d (.int 0), .d (.int r), .d (.int 0)])), rt := fun _ _ => False } (fun _ _ => False) ⟨rfl, rfl, rfl⟩ rfl rel0 ?_ ⟨fun env σ H' rl hn => ?_, fun _ _ _ _ _ _ h => h.elim, fun _ _ _ _ h => h, fun _ _ _ _ h => h, fun _ _ _ _ _ _ _ h => h.elim⟩
  · subst eN
    refine ⟨rfl, ns, rfl, ln, fun cs r hc r0 r1 => ⟨rfl, ?_⟩⟩
    show useW _ _ _
    rw [if_neg (fun h => nomatch h)]
    exact ⟨rfl, Nat.succ_lt_succ (Nat.succ_pos _), cs, r, hc, r0, r1, rfl⟩
  · obtain ⟨cs, r, hc, r0, r1, ee⟩ := hn
    subst ee
    obtain ⟨G, as, bs, ⟨_, q0⟩, re, nd, ow, c⟩ := rl
    subst q0
    subst eN
    have nones : ∀ {n : Nat} {σ : St} {as : List Addr}, RepE z G H' (List.replicate n none) σ as → as = [] ∧ RepE { K := K, mg := mg, H0 := H', G0 := G, s := none } G H' (List.replicate n none) σ [] := by
      intro n
      induction n with
      | zero => intro σ as h; exact ⟨h.2, h.1, rfl⟩
      | succ n ih => intro σ as h; obtain ⟨o, σ', e, h⟩ := h; obtain ⟨e2, h2⟩ := ih h; exact ⟨e2, o, σ', e, h2⟩
    obtain ⟨v0, σ1, a1, a2, eσ, ebs, ⟨q0, r00⟩, v, σ2, bi, a4, eσ2, ebs2, rr, rest⟩ := re
    obtain ⟨e4, rest⟩ := nones rest
    subst e4 ebs2 ebs q0 eσ2 eσ
    obtain ⟨s, us, as', ev, ebi, hs, rws⟩ := rr
    obtain ⟨u1, us1, x1, y1, eu1, ea1, ⟨q1, y1'⟩, u2, us2, x2, y2, eu2, ea2, ⟨q2, y2'⟩, u3, us3, x3, y3, eu3, ea3, ⟨q3, y3'⟩, u4, us4, x4, y4, eu4, ea4, ⟨q4, y4'⟩, u5, us5, x5, y5, eu5, ea5, ⟨q5, y5'⟩, u6, us6, x6, y6, eu6, ea6, ⟨q6, y6'⟩, eu7, ea7⟩ := rws
    have y2' : u2 = .int 0 := y2'
    have y3' : u3 = .int 0 := y3'
    have y4' : u4 = .int 0 := y4'
    have y5' : u5 = .int r := y5'
    have y6' : u6 = .int 0 := y6'
    subst ev eu7 eu6 eu5 eu4 eu3 eu2 eu1 y2' y3' y4' y5' y6' q1 q2 q3 q4 q5 q6 ea7 ea6 ea5 ea4 ea3 ea2 ea1 ebi
    obtain ⟨gs, os⟩ := ow s (by simp)
    let z2 : Z := { K := K, mg := mg, H0 := H', G0 := G, s := some s, sv := some u1 }
    have lk : z.like z2 := ⟨rfl, rfl, fun v h => (by cases h)⟩
    have sb : z.sub z2 := ⟨fun v h => (by cases h), fun v h => (by cases h), fun v h => (by cases h)⟩
    have c2 : Core z2 G H' := by
      refine ⟨Same.refl _, c.gh, fun b o e _ => e, fun b h => .inl h, fun s' h => ?_, fun i h => (by cases h), fun _ s' h => ?_⟩
      · cases h
        exact ⟨gs, by show H' s ≠ none; rw [hs]; exact fun q => nomatch q⟩
      · cases h
        exact ⟨0, 0, 0, r, 0, u1, cs, rfl, hs, ⟨by decide, by decide, r0, r1⟩, ⟨rfl, (y1'.like lk)⟩, hc⟩
    have re2 : RepE z2 G H' ((startE (("script" : Str) :: ("store" : Str) :: N') [.d (.klst (ns.map .int))]).set 1 (some .sto)) (some v0 :: some (.ref s) :: σ2) [] :=
      ⟨v0, _, [], [], rfl, rfl, ⟨rfl, Rep.like lk r00⟩, .ref s, _, [], [], rfl, rfl, ⟨rfl, s, rfl, rfl⟩, RepE.move lk sb (Same.refl _) rest fun _ m => by simp at m⟩
    refine f2 z2 [] [] _ _ H' _ trueE (fun _ _ => False) ⟨rfl, rfl, rfl⟩ rfl ⟨G, [], [], ⟨rfl, rfl⟩, re2, List.nodup_nil, fun a m => by simp at m, c2⟩ (hp ns ln) ⟨fun _ _ _ _ h => h.elim, fun w2 env2 v2 σ3 H3 rl hh => ?_, fun _ _ _ _ h => h, fun _ _ _ _ h => h, fun _ _ _ _ _ _ _ h => h.elim⟩
    have ev : v2 = .bl true := rd_bl (rl.look hh)
    subst ev
    exact hq H3
end
end DL

/-! DL18: plain laws of the readings: loops, comprehensions, rows. -/
namespace DL
open PySem
def compStep (vs : List Nat) (g : DTG) (tt : DTT) (te : DTE) (w : W) (acc : List W) (env : Env) (K : List W → Env → Prop) : Prop := g w env (fun e1 => tt e1 (fun b e2 => if b = true then te e2 (fun y e3 => useW y e3 fun y' e4 => acc.length < sizeLine ∧ K (acc ++ [y']) (wipeE e4 vs)) kf else K acc (wipeE e2 vs)) kf) kf
theorem compL_ind {vs : List Nat} {g : DTG} {tt : DTT} {te : DTE} (Iv : List W → List W → Env → Prop) (hs : ∀ w r acc env K, Iv (w :: r) acc env → (∀ acc' e', Iv r acc' e' → K acc' e') → compStep vs g tt te w acc env K) :
    ∀ {items acc env k}, Iv items acc env → (∀ acc e, Iv [] acc e → k acc e) → compL vs g tt te items acc env k
  | [], _, _, _, h, q => q _ _ h
  | w :: r, acc, env, k, h, q => hs w r acc env (fun acc' e' => compL vs g tt te r acc' e' k) h fun acc' e' h' => compL_ind Iv hs h' q
/-- every item gives one value, the slots stand -/
theorem compL_map {vs : List Nat} {g : DTG} {tt : DTT} {te : DTE} {env : Env} (P : W → W → Prop) (hs : ∀ w acc K, (∀ y, P w y → K (acc ++ [y]) env) → acc.length < sizeLine → compStep vs g tt te w acc env K) :
    ∀ {items acc k}, acc.length + items.length ≤ sizeLine → (∀ ys : List W, ys.length = items.length → (∀ (i : Nat) (w y : W), items[i]? = some w → ys[i]? = some y → P w y) → k (acc ++ ys) env) → compL vs g tt te items acc env k
  | [], acc, k, _, q => by
    have := q [] rfl (fun i w y h => by simp at h)
    rwa [List.append_nil] at this
  | w :: r, acc, k, hl, q => hs w acc (fun acc' e' => compL vs g tt te r acc' e' k) (fun y hy => by
      refine compL_map P hs (by simp only [List.length_append, List.length_cons, List.length_nil] at hl ⊢; omega) fun ys ly hp => ?_
      have := q (y :: ys) (by simp [ly]) fun i w' y' h1 h2 => by
        cases i with
        | zero => simp at h1 h2; subst h1 h2; exact hy
        | succ i => exact hp i w' y' (by simpa using h1) (by simpa using h2)
      rwa [List.append_assoc]) (by simp only [List.length_cons] at hl; omega)
theorem compL_fun {vs : List Nat} {g : DTG} {tt : DTT} {te : DTE} {env : Env} (f : W → W) : ∀ {items acc k}, (∀ w ∈ items, ∀ acc K, K (acc ++ [f w]) env → acc.length < sizeLine → compStep vs g tt te w acc env K) → acc.length + items.length ≤ sizeLine → k (acc ++ items.map f) env → compL vs g tt te items acc env k
  | [], acc, k, _, _, q => by rwa [List.map_nil, List.append_nil] at q
  | w :: r, acc, k, hs, hl, q => hs w List.mem_cons_self acc (fun acc' e' => compL vs g tt te r acc' e' k) (by
      refine compL_fun f (fun w' m => hs w' (List.mem_cons_of_mem _ m)) (by simp only [List.length_append, List.length_cons, List.length_nil] at hl ⊢; omega) ?_
      rwa [List.append_assoc]) (by simp only [List.length_cons] at hl; omega)
theorem compL_any {vs : List Nat} {g : DTG} {tt : DTT} {te : DTE} {env : Env} (P : W → Prop) : ∀ {items acc k}, (∀ w ∈ items, ∀ acc K, (∀ y, P y → K (acc ++ [y]) env) → acc.length < sizeLine → compStep vs g tt te w acc env K) → acc.length + items.length ≤ sizeLine → (∀ ys : List W, ys.length = items.length → (∀ y ∈ ys, P y) → k (acc ++ ys) env) → compL vs g tt te items acc env k
  | [], acc, k, _, _, q => by
    have := q [] rfl (fun y h => nomatch h)
    rwa [List.append_nil] at this
  | w :: r, acc, k, hs, hl, q => hs w List.mem_cons_self acc (fun acc' e' => compL vs g tt te r acc' e' k) (fun y hy => by
      refine compL_any P (fun w' m => hs w' (List.mem_cons_of_mem _ m)) (by simp only [List.length_append, List.length_cons, List.length_nil] at hl ⊢; omega) fun ys ly hp => ?_
      have := q (y :: ys) (by simp [ly]) fun y' m => (List.mem_cons.mp m).elim (fun e => e ▸ hy) (hp y')
      rwa [List.append_assoc]) (by simp only [List.length_cons] at hl; omega)
theorem forL_ind {g : DTG} {body : DTS} {kx : XC} {E : DEnds} (Iv : List W → Env → Prop) (hs : ∀ w r env K, Iv (w :: r) env → (∀ e', Iv r e' → K e') → g w env (fun e1 => body { E with nx := K, ct := K, bk := E.nx } kx e1) kx) :
    ∀ {items env}, Iv items env → (∀ e, Iv [] e → E.nx e) → forL g body kx items E env
  | [], _, h, q => q _ h
  | w :: r, env, h, q => hs w r env (fun e' => forL g body kx r E e') h fun e' h' => forL_ind Iv hs h' q
theorem ite_i {c A B : Prop} {d : Decidable c} (ha : c → A) (hb : ¬ c → B) : @ite Prop c d A B := by
  by_cases h : c
  · rw [if_pos h]; exact ha h
  · rw [if_neg h]; exact hb h
theorem dsOf_map2 {α : Type} {f : α → D} {xs : List α} : dsOf (xs.map fun x => W.d (f x)) = some (xs.map f) := by
  have := dsOf_map (xs := xs.map f)
  rwa [List.map_map] at this
theorem blsOf_map2 {α : Type} {p : α → Bool} : ∀ {xs : List α}, blsOf (xs.map fun x => D.bl (p x)) = some (xs.map p)
  | [] => rfl
  | x :: xs => by show (blsOf _).map (p x :: ·) = _; rw [blsOf_map2]; rfl
theorem flat_map {α : Type} {f : α → D} {xs : List α} : flat (.ol (xs.map fun x => W.d (f x))) = some (.l, xs.map f) := by
  show (dsOf _).map (fun xs => (SeqK.l, xs)) = _
  rw [dsOf_map2]; rfl
theorem rowD_map {α : Type} {f : α → D} {xs : List α} {env : Env} {k : SeqK → List D → Env → Prop} (h : k .l (xs.map f) env) : rowD (.ol (xs.map fun x => W.d (f x))) env k := by
  unfold rowD
  rw [show (peek env (.ol (xs.map fun x => W.d (f x)))).bind flat = some (.l, xs.map f) from flat_map]
  exact h
theorem kBls_map {α : Type} {p : α → Bool} {xs : List α} {f : List Bool → Bool} {env : Env} {k : DK} (h : k (.d (.bl (f (xs.map p)))) env) : kBls f (.ol (xs.map fun x => W.d (.bl (p x)))) env k := by
  refine rowD_map ?_
  show match SeqK.l, blsOf (xs.map fun x => D.bl (p x)) with | .t, _ => False | _, some ns => k (.d (.bl (f ns))) env | _, none => False
  rw [blsOf_map2]
  exact h
theorem fzs_map {α : Type} {f : α → D} : ∀ {xs : List α}, fzs (xs.map fun x => W.d (f x)) = xs.map f
  | [] => rfl
  | x :: xs => by show fz _ :: fzs _ = _; rw [fzs_map]; rfl
theorem nostos_map {α : Type} {f : α → D} : ∀ {xs : List α}, nostos (xs.map fun x => W.d (f x)) = true
  | [] => rfl
  | x :: xs => by show (true && nostos _) = true; rw [nostos_map]; rfl
theorem clears_map {α : Type} {f : α → D} : ∀ {xs : List α}, (∀ x ∈ xs, flatL (f x) = true) → clears (xs.map fun x => W.d (f x)) = true
  | [], _ => rfl
  | x :: xs, h => by
    show (flatL (f x) && clears _) = true
    rw [h x List.mem_cons_self, clears_map fun y m => h y (List.mem_cons_of_mem _ m)]; rfl
theorem nostos_d {xs : List D} : nostos (xs.map W.d) = true := nostos_map (f := id)
theorem fzs_d {xs : List D} : fzs (xs.map W.d) = xs := by
  have := fzs_map (f := id) (xs := xs)
  rwa [List.map_id] at this
mutual
theorem eqv_refl : ∀ {n : Nat} {x : D}, okq n x = true → eqv x x = true
  | _, .non, _ => rfl
  | _, .bl b, _ => by simp [eqv]
  | _, .int i, _ => by simp [eqv]
  | _, .str s, _ => by simp [eqv]
  | n + 1, .lst xs, h => by simp only [eqv]; exact eqvs_refl (by simpa [okq] using h)
  | n + 1, .klst xs, h => by simp only [eqv]; exact eqvs_refl (by simpa [okq] using h)
  | n + 1, .tup xs, h => by simp only [eqv]; exact eqvs_refl (by simpa [okq] using h)
  | 0, .lst _, h => by simp [okq] at h
  | 0, .klst _, h => by simp [okq] at h
  | 0, .tup _, h => by simp [okq] at h
  | _, .ty _, h => by simp [okq] at h
  | _, .glo _, h => by simp [okq] at h
  | _, .ins _ _, h => by simp [okq] at h
  | _, .dct _, h => by simp [okq] at h
  | _, .cel _, h => by simp [okq] at h
theorem eqvs_refl : ∀ {n : Nat} {x : List D}, okqs n x = true → eqvs x x = true
  | _, [], _ => rfl
  | n, x :: xs, h => by
    simp only [okqs, Bool.and_eq_true] at h
    simp only [eqvs, eqv_refl h.1, eqvs_refl h.2, Bool.and_self]
end
theorem rangeW_len {lo : Int} {n : Nat} : (rangeW lo n).length = n := by unfold rangeW; rw [List.length_map, List.length_range]
end DL

/-! DL19: joining. -/
namespace DL
open PySem PySem.Spec
open PyProof.Rows L2
section
variable {P : Program} {w : World} {K : PySem.W.Frag} {mg : Str → Option Value} {base : Heap} {X : Cx} {x : Str} {ps : List Str} {k : Nat} {s : DSp} {f : Addr} {fd : FuncData}
theorem DFn.here (F : DFn P w K mg base x ps k s) (e1 : X.prog = P) (e2 : X.w = w) (e3 : X.K = K) (e4 : X.mg = mg) (e5 : X.base = base) : DFn X.prog X.w X.K X.mg X.base x ps k s := by
  subst e1 e2 e3 e4 e5; exact F
theorem none_here (e4 : X.mg = mg) (h : mg x = none) : X.mg x = none := by rw [e4]; exact h
theorem str_here {z : Str} (e4 : X.mg = mg) (h : ∃ t, mg x = some (.str z t)) : ∃ t, X.mg x = some (.str z t) := by rw [e4]; exact h
theorem int_here {z : Int} (e4 : X.mg = mg) (h : ∃ t, mg x = some (.int z t)) : ∃ t, X.mg x = some (.int z t) := by rw [e4]; exact h
/-- no error is let out -/
theorem FnOk.quiet {sp : Sp} (F : FnOk P w K mg base (L2N.CX P w) k f fd ps sp) (h : ∀ vs H Q E, sp vs H Q E → sp vs H Q fun _ _ _ => False) : FnOk P w K mg base (fun _ _ _ _ _ _ => False) k f fd ps sp :=
  ⟨F.len, fun A outer s H args us vs Q E hr e0 hb hv hs => codeAny_mono (F.run A outer s H args us vs Q (fun _ _ _ => False) hr e0 hb hv (h _ _ _ _ hs)) fun r s' q => by
    cases r with
    | ok fl => cases fl <;> exact q
    | error e =>
      obtain ⟨_, _, _, _, _, _, _, _, _, _, _, _, z⟩ := q
      exact z⟩
end
end DL

namespace Lk27
open PySem PySem.Spec
open PyProof.Rows L2 DL
/-! plain functions -/
abbrev okS (s : List Nat) (n : Nat) : Prop := s.length ≤ n ∧ ∀ c ∈ s, c < 128
def isDig (c : Nat) : Bool := decide (48 ≤ c) && decide (c ≤ 57)
def isLow (c : Nat) : Bool := decide (97 ≤ c) && decide (c ≤ 122)
def rnum (s : List Nat) : Option Nat := if s.length < 1 ∨ 9 < s.length then none else if s.all isDig = false then none else if 1 < s.length ∧ s[0]? = some 48 then none else some (NumText.digitsVal s)
def optI : Option Nat → D
  | some n => .int n
  | none => .non
def tRow : List Nat := [114, 111, 119]
def tCol : List Nat := [99, 111, 108, 117, 109, 110]
def cutD (p : List Nat × Nat) : D := .tup [.str p.1, .int p.2]
def cutT (p : List Nat × Nat) : W := .ot [.d (.str p.1), .d (.int p.2)]
def rcut : List Nat → Option (List Nat × Nat)
  | c :: t => match rnum t with
    | some n => if c = 114 then some (tRow, n) else if c = 99 then some (tCol, n) else none
    | none => none
  | [] => none
def cutW : Option (List Nat × Nat) → W
  | some p => cutT p
  | none => .d .non
/-- a place's word: '-', or one digit -/
def rspot (s : List Nat) : Option (Option Nat) := if s = [45] then some none else match s with
  | [c] => if isDig c = true then some (some (c - 48)) else none
  | _ => none
def rspots : List (List Nat) → Option (List (Option Nat))
  | [] => some []
  | s :: ss => match rspot s with
    | some o => (rspots ss).map (o :: ·)
    | none => none
def spotsW : Option (List (Option Nat)) → W
  | some l => .ol (l.map fun o => .d (optI o))
  | none => .d .non
def named (s : List Nat) : Bool := decide (0 < s.length) && decide (s.length < 9) && s.all isLow
def parts (s : List Nat) : List (List Nat) := if s = [] then [] else TL.spl [32] 0 [] s
def strW (ss : List (List Nat)) : W := .ol (ss.map fun s => .d (.str s))
/-! data flattened, as _law_plain has it -/
mutual
def szD : D → Nat
  | .lst xs => 1 + szs xs
  | .klst xs => 1 + szs xs
  | .tup xs => 1 + szs xs
  | _ => 1
def szs : List D → Nat
  | [] => 0
  | x :: xs => szD x + szs xs
end
mutual
/-- what _law_plain reads -/
def pln : D → Bool
  | .non => true
  | .bl _ => true
  | .int i => true
  | .str s => s.all (· < 128)
  | .lst xs => plns xs
  | .klst xs => plns xs
  | .tup xs => plns xs
  | _ => false
def plns : List D → Bool
  | [] => true
  | x :: xs => pln x && plns xs
end
def part1 : D → List Nat × D
  | .lst xs => ([108], .int xs.length)
  | .klst xs => ([108], .int xs.length)
  | .tup xs => ([116], .int xs.length)
  | .non => ([98], .str [78, 111, 110, 101])
  | .bl b => ([98], .str (if b then [84, 114, 117, 101] else [70, 97, 108, 115, 101]))
  | .int i => ([105], .int i)
  | .str s => ([115], .str s)
  | _ => ([63], .non)
def kids : D → List D
  | .lst xs => xs
  | .klst xs => xs
  | .tup xs => xs
  | _ => []
def plain : Nat → List D → List (List Nat × D) → List (List Nat × D)
  | 0, _, out => out
  | n + 1, st, out => match st.getLast? with
    | none => out
    | some x => plain n (st.dropLast ++ kids x) (out ++ [part1 x])
def partW (p : List Nat × D) : W := .ot [.d (.str p.1), .d p.2]
/-! promises -/
def S_read_number : DSp := fun ws k _ => ∃ s, ws = [.d (.str s)] ∧ s.length ≤ 10000 ∧ k (.d (optI (rnum s)))
def S_cut_word : DSp := fun ws k _ => ∃ (w : List Nat) (n : Nat), ws = [.d (.tup [.str w, .int n])] ∧ n < 10 ^ 9 ∧ (w = tRow ∨ w = tCol) ∧ k (.d (.str ((if w = tRow then 114 else 99) :: TL.numL n)))
def S_read_cut : DSp := fun ws k _ => ∃ s, ws = [.d (.str s)] ∧ s.length ≤ 10000 ∧ k (cutW (rcut s))
def S_place_word : DSp := fun ws k _ => ∃ o : Option Nat, ws = [.d (optI o)] ∧ (∀ n, o = some n → n < 10 ^ 9) ∧ k (.d (.str (match o with | some n => TL.numL n | none => [45])))
def S_read_places : DSp := fun ws k _ => ∃ ss : List (List Nat), ws = [.d (.lst (ss.map .str))] ∧ ss.length ≤ 10000 ∧ (∀ s ∈ ss, s.length ≤ 10000) ∧ k (spotsW (rspots ss))
def S_is_name : DSp := fun ws k _ => ∃ s, ws = [.d (.str s)] ∧ s.length ≤ 10000 ∧ k (.d (.bl (named s)))
def S_split_line : DSp := fun ws k _ => ∃ s, ws = [.d (.str s)] ∧ s.length ≤ 10000 ∧ k (strW (parts s))
def S__law_store : DSp := S_store
def S__law_take : DSp := S_take
def S__law_pick : DSp := fun ws k _ => (∃ xs : List D, ws = [.sto, .d (.lst xs)] ∧ xs ≠ [] ∧ xs.length < 1000000 ∧ ∀ y ∈ xs, k (.d y)) ∨ ∃ s, ws = [.sto, .d (.str s)] ∧ s ≠ [] ∧ s.length < 1000000 ∧ ∀ c ∈ s, k (.d (.str [c]))
def S__law_between : DSp := fun ws k _ => ∃ lo hi : Int, ws = [.sto, .d (.int lo), .d (.int hi)] ∧ lo ≤ hi ∧ hi - lo < 1000000 ∧ ∀ i, lo ≤ i → i ≤ hi → k (.d (.int i))
def S__law_char : DSp := fun ws k _ => ws = [.sto] ∧ ∀ c, c < 128 → k (.d (.str [c]))
def S__law_text : DSp := fun ws k _ => ∃ m : Nat, ws = [.sto, .d (.int m)] ∧ m ≤ 1000 ∧ ∀ s, okS s m → k (.d (.str s))
def S__law_name : DSp := fun ws k _ => ws = [.sto] ∧ ∀ s, s ≠ [] → okS s 9 → k (.d (.str s))
def S__law_word : DSp := fun ws k _ => ws = [.sto] ∧ ∀ s, okS s 20 → k (.d (.str s))
def S__law_plain : DSp := fun ws k _ => ∃ x, ws = [.d x] ∧ pln x = true ∧ szD x ≤ 100000 ∧ k (.ol ((plain 40000 [x] []).map partW))
def S__law_alike : DSp := fun ws k _ => ∃ x, ws = [.d x, .d x] ∧ pln x = true ∧ szD x ≤ 100000 ∧ k (.d (.bl true))
def S__law_number : DSp := fun ws k _ => ∃ s, ws = [.d (.str s)] ∧ s.length ≤ 10000 ∧ k (.ol ((rnum s).toList.map fun n : Nat => W.d (.int n)))
def S__law_cut : DSp := fun ws k _ => ∃ s, ws = [.d (.str s)] ∧ s.length ≤ 10000 ∧ k (.ol ((rcut s).toList.map cutT))
def S__law_spot : DSp := fun ws k _ => ∃ s, ws = [.d (.str s)] ∧ s.length ≤ 10000 ∧ k (.ol ((rspot s).toList.map fun o => .d (optI o)))
def S__law_named : DSp := fun ws k _ => ∃ s, ws = [.d (.str s)] ∧ s.length ≤ 10000 ∧ k (.d (.bl (named s)))
def S__law_first : DSp := fun ws k _ => ∃ xs : List D, ws = [.d (.lst xs)] ∧ k (.d (xs.headD .non))
def S__law_spots : DSp := fun ws k _ => ∃ ss : List (List Nat), ws = [.d (.lst (ss.map .str))] ∧ ss.length ≤ 10000 ∧ (∀ s ∈ ss, s.length ≤ 10000) ∧ k (spotsW (rspots ss))
def S__law_parted : DSp := fun ws k _ => ∃ s, ws = [.d (.str s)] ∧ s.length ≤ 10000 ∧ k (strW (parts s))
def S__law_digits : DSp := fun ws k _ => ws = [.sto] ∧ ∀ s, okS s 30 → k (.d (.str s))
def S__law_near : DSp := fun ws k _ => ws = [.sto] ∧ ∀ s, okS s 60 → k (.d (.str s))
def S__law_word_right : DSp := fun ws k _ => ∃ s, ws = [.d (.str s)] ∧ okS s 5000 ∧ k (.d (.bl true))
def S__law_places_right : DSp := fun ws k _ => ∃ ss : List (List Nat), ws = [.d (.lst (ss.map .str))] ∧ ss.length ≤ 5000 ∧ (∀ s ∈ ss, okS s 5000) ∧ k (.d (.bl true))
def S__law_line_right : DSp := fun ws k _ => ∃ s, ws = [.d (.str s)] ∧ okS s 5000 ∧ k (.d (.bl true))
def S__law_words : DSp := fun ws k _ => ws = [.sto] ∧ ∀ ss : List (List Nat), ss.length ≤ 1000 → (∀ s ∈ ss, okS s 60) → k (strW ss)
def S__law_line : DSp := fun ws k _ => ws = [.sto] ∧ ∀ s, okS s 4001 → k (.d (.str s))
end Lk27

namespace Lk27
open PySem PySem.Spec
open PyProof.Rows L2 DL
theorem mgn {X Y : Cx} {x : Str} (e : Y.mg = X.mg) (h : X.mg x = none) : Y.mg x = none := by rw [e]; exact h
theorem mgs {X Y : Cx} {x s : Str} (e : Y.mg = X.mg) (h : ∃ t, X.mg x = some (.str s t)) : ∃ t, Y.mg x = some (.str s t) := by rw [e]; exact h
theorem mgi {X Y : Cx} {x : Str} {s : Int} (e : Y.mg = X.mg) (h : ∃ t, X.mg x = some (.int s t)) : ∃ t, Y.mg x = some (.int s t) := by rw [e]; exact h
def top (i : Nat) : Stmt := PySem.Challenge.pw_corneralike_k27_words.main.body.getD i (.Pass ⟨0, 0, 0, 0⟩)

/-! read_number -/
def N_read_number : List Str := ["word", "sign"]
abbrev st_read_number : Stmt := top 3
abbrev ps_read_number : List Str := ["word"]
theorem sc_read_number : FnScope N_read_number ps_read_number (defScope st_read_number) := ⟨rfl, rfl, rfl, by decide +kernel, rfl, by decide +kernel, by decide +kernel⟩
def t_read_number_0_3 : DTS := dSeq (dRet (dCl (s1 kInt) (dCons (dVar 0) dNil))) dNext
def t_read_number_1_0 : DTS := dSeq (dRet (dC .non)) dNext
def t_read_number_0_2 : DTS := dSeq (dIf (dAndT (dBl (dOp (sCmp .Gt) (dCl (s1 kLenN) (dCons (dVar 0) dNil)) (dC (.int 1)))) (dBl (dOp (sCmp .Eq) (dOp sIx (dVar 0) (dC (.int 0))) (dC (.str [48]))))) t_read_number_1_0 dNext) t_read_number_0_3
def t_read_number_2_0 : DTS := dSeq (dRet (dC .non)) dNext
def t_read_number_0_1 : DTS := dSeq (dIf (dNotT (dTru (dCl (s1 (kBls fun bs => bs.all id)) (dCons (dComp [1] (dRow (dVar 0)) (gN 1) dYes (dOp (sCmp .In) (dVar 1) (dC (.str [48, 49, 50, 51, 52, 53, 54, 55, 56, 57])))) dNil)))) t_read_number_2_0 dNext) t_read_number_0_2
def t_read_number_3_0 : DTS := dSeq (dRet (dC .non)) dNext
def t_read_number_0_0 : DTS := dSeq (dIf (dOrT (dBl (dOp (sCmp .Lt) (dCl (s1 kLenN) (dCons (dVar 0) dNil)) (dC (.int 1)))) (dBl (dOp (sCmp .Gt) (dCl (s1 kLenN) (dCons (dVar 0) dNil)) (dC (.int 9))))) t_read_number_3_0 dNext) t_read_number_0_1
abbrev t_read_number : DTS := t_read_number_0_0
theorem se_read_number (w0 : W) : startE N_read_number [w0] = [some w0, none] := rfl
theorem w_read_number {X : Cx} {k : Nat} (h : FX N_read_number (defScope st_read_number) none k X) (ho : PassesOwn (model X.prog X.w) X.A X.env X.xe) (m_int : X.mg "int" = none) (m_len : X.mg "len" = none) (m_all : X.mg "all" = none) (g_DIGITS : ∃ t, X.mg "DIGITS" = some (.str "0123456789" t)) : DSs X (defBody st_read_number) (t_read_number) :=
    (dss_cons (ds_if (DW.dt (dw_or (h.tcmp .Lt pl_con (h.len (by decide +kernel) m_len (pls_cons pl_name pls_nil) (da_cons pl_name (h.var (i := 0) (by decide +kernel)) da_nil)) de_int) (dw_or1 (h.tcmp .Gt pl_con (h.len (by decide +kernel) m_len (pls_cons pl_name pls_nil) (da_cons pl_name (h.var (i := 0) (by decide +kernel)) da_nil)) de_int)))) (dss_cons (ds_ret de_non)
      dss_nil) dss_nil)
      (dss_cons (ds_if (dt_not (dt_tru tr_call (h.all (by decide +kernel) m_all (pls_cons pl_lc pls_nil) (da_cons pl_lc (h.comp (own := [("sign", 1)]) (sl := [1]) (by decide +kernel) (by decide +kernel) pl_name (di_row (h.var (i := 0) (by decide +kernel))) (fun _ h1 e0_1 e0_2 e0_3 e0_4 e0_5 => ⟨(h1.tg (by decide +kernel)), dts_nil, (h1.cmp .In pl_name (h1.var (i := 1) (by decide +kernel)) (h1.gstr (by decide +kernel) (mgs e0_4 g_DIGITS)))⟩)) da_nil)))) (dss_cons (ds_ret de_non)
      dss_nil) dss_nil)
      (dss_cons (ds_if (DW.dt (dw_and (h.tcmp .Gt pl_con (h.len (by decide +kernel) m_len (pls_cons pl_name pls_nil) (da_cons pl_name (h.var (i := 0) (by decide +kernel)) da_nil)) de_int) (dw_and1 (h.tcmp .Eq pl_con (de_ix pl_con (h.var (i := 0) (by decide +kernel)) de_int) de_str)))) (dss_cons (ds_ret de_non)
      dss_nil) dss_nil)
      (dss_cons (ds_ret (h.int (by decide +kernel) m_int (pls_cons pl_name pls_nil) (da_cons pl_name (h.var (i := 0) (by decide +kernel)) da_nil)))
      dss_nil))))
/-! cut_word -/
def N_cut_word : List Str := ["cut", "way", "number"]
abbrev st_cut_word : Stmt := top 4
abbrev ps_cut_word : List Str := ["cut"]
theorem sc_cut_word : FnScope N_cut_word ps_cut_word (defScope st_cut_word) := ⟨rfl, rfl, rfl, by decide +kernel, rfl, by decide +kernel, by decide +kernel⟩
def t_cut_word_0_2 : DTS := dSeq (dRet (dJoin [(dC (.str [99])), (dFmt (dVar 2))])) dNext
def t_cut_word_1_0 : DTS := dSeq (dRet (dJoin [(dC (.str [114])), (dFmt (dVar 2))])) dNext
def t_cut_word_0_1 : DTS := dSeq (dIf (dBl (dOp (sCmp .Eq) (dVar 1) (dC (.str [114, 111, 119])))) t_cut_word_1_0 dNext) t_cut_word_0_2
def t_cut_word_0_0 : DTS := dSeq (dAsg (dVar 0) (gTp 2 (gsCons (gN 1) (gsCons (gN 2) gsNil)))) t_cut_word_0_1
abbrev t_cut_word : DTS := t_cut_word_0_0
theorem se_cut_word (w0 : W) : startE N_cut_word [w0] = [some w0, none, none] := rfl
theorem w_cut_word {X : Cx} {k : Nat} (h : FX N_cut_word (defScope st_cut_word) none k X) (ho : PassesOwn (model X.prog X.w) X.A X.env X.xe) : DSs X (defBody st_cut_word) (t_cut_word) :=
    (dss_cons (ds_asg rfl rfl tg_tup (h.var (i := 0) (by decide +kernel)) (dg_tup h.calm (tgs_cons tg_name (tgs_cons tg_name tgs_nil)) (dgs_cons (h.tg (by decide +kernel)) (dgs_cons (h.tg (by decide +kernel)) dgs_nil rfl) rfl)))
      (dss_cons (ds_if (h.tcmp .Eq pl_con (h.var (i := 1) (by decide +kernel)) de_str) (dss_cons (ds_ret (de_joined (.cons de_str (.cons (de_fmt (h.var (i := 2) (by decide +kernel))) .nil))))
      dss_nil) dss_nil)
      (dss_cons (ds_ret (de_joined (.cons de_str (.cons (de_fmt (h.var (i := 2) (by decide +kernel))) .nil))))
      dss_nil)))
/-! read_cut -/
def N_read_cut : List Str := ["word", "number"]
abbrev st_read_cut : Stmt := top 5
abbrev ps_read_cut : List Str := ["word"]
theorem sc_read_cut : FnScope N_read_cut ps_read_cut (defScope st_read_cut) := ⟨rfl, rfl, rfl, by decide +kernel, rfl, by decide +kernel, by decide +kernel⟩
def t_read_cut_0_4 : DTS := dSeq (dRet (dC .non)) dNext
def t_read_cut_1_0 : DTS := dSeq (dRet (dTup (dCons (dC (.str [99, 111, 108, 117, 109, 110])) (dCons (dVar 1) dNil)))) dNext
def t_read_cut_0_3 : DTS := dSeq (dIf (dBl (dOp (sCmp .Eq) (dOp sIx (dVar 0) (dC (.int 0))) (dC (.str [99])))) t_read_cut_1_0 dNext) t_read_cut_0_4
def t_read_cut_2_0 : DTS := dSeq (dRet (dTup (dCons (dC (.str [114, 111, 119])) (dCons (dVar 1) dNil)))) dNext
def t_read_cut_0_2 : DTS := dSeq (dIf (dBl (dOp (sCmp .Eq) (dOp sIx (dVar 0) (dC (.int 0))) (dC (.str [114])))) t_read_cut_2_0 dNext) t_read_cut_0_3
def t_read_cut_3_0 : DTS := dSeq (dRet (dC .non)) dNext
def t_read_cut_0_1 : DTS := dSeq (dIf (dBl (dOp (sCmp .Is) (dVar 1) (dC .non))) t_read_cut_3_0 dNext) t_read_cut_0_2
def t_read_cut_0_0 : DTS := dSeq (dAsg (dCall 1 S_read_number (dCons (dSl (dVar 0) (dSo (dC (.int 1))) dNo) dNil)) (gN 1)) t_read_cut_0_1
abbrev t_read_cut : DTS := t_read_cut_0_0
theorem se_read_cut (w0 : W) : startE N_read_cut [w0] = [some w0, none] := rfl
theorem w_read_cut {X : Cx} {k : Nat} (h : FX N_read_cut (defScope st_read_cut) none k X) (ho : PassesOwn (model X.prog X.w) X.A X.env X.xe) {l_read_number : Nat} (c_read_number : DFn X.prog X.w X.K X.mg X.base "read_number" ps_read_number l_read_number S_read_number) (j_read_number : Nat.ble l_read_number k = true) : DSs X (defBody st_read_cut) (t_read_cut) :=
    (dss_cons (ds_asg rfl rfl tg_name (h.call c_read_number j_read_number (by decide +kernel) (pls_cons pl_sub pls_nil) (da_cons pl_sub (de_sl (h.var (i := 0) (by decide +kernel)) (do_so de_int) do_no) da_nil)) (h.tg (by decide +kernel)))
      (dss_cons (ds_if (h.tcmp .Is pl_con (h.var (i := 1) (by decide +kernel)) de_non) (dss_cons (ds_ret de_non)
      dss_nil) dss_nil)
      (dss_cons (ds_if (h.tcmp .Eq pl_con (de_ix pl_con (h.var (i := 0) (by decide +kernel)) de_int) de_str) (dss_cons (ds_ret (de_tup (da_cons pl_con de_str (da_cons pl_name (h.var (i := 1) (by decide +kernel)) da_nil))))
      dss_nil) dss_nil)
      (dss_cons (ds_if (h.tcmp .Eq pl_con (de_ix pl_con (h.var (i := 0) (by decide +kernel)) de_int) de_str) (dss_cons (ds_ret (de_tup (da_cons pl_con de_str (da_cons pl_name (h.var (i := 1) (by decide +kernel)) da_nil))))
      dss_nil) dss_nil)
      (dss_cons (ds_ret de_non)
      dss_nil)))))
/-! place_word -/
def N_place_word : List Str := ["place"]
abbrev st_place_word : Stmt := top 6
abbrev ps_place_word : List Str := ["place"]
theorem sc_place_word : FnScope N_place_word ps_place_word (defScope st_place_word) := ⟨rfl, rfl, rfl, by decide +kernel, rfl, by decide +kernel, by decide +kernel⟩
def t_place_word_0_1 : DTS := dSeq (dRet (dCl (s1 kStr) (dCons (dVar 0) dNil))) dNext
def t_place_word_1_0 : DTS := dSeq (dRet (dC (.str [45]))) dNext
def t_place_word_0_0 : DTS := dSeq (dIf (dBl (dOp (sCmp .Is) (dVar 0) (dC .non))) t_place_word_1_0 dNext) t_place_word_0_1
abbrev t_place_word : DTS := t_place_word_0_0
theorem se_place_word (w0 : W) : startE N_place_word [w0] = [some w0] := rfl
theorem w_place_word {X : Cx} {k : Nat} (h : FX N_place_word (defScope st_place_word) none k X) (ho : PassesOwn (model X.prog X.w) X.A X.env X.xe) (m_str : X.mg "str" = none) : DSs X (defBody st_place_word) (t_place_word) :=
    (dss_cons (ds_if (h.tcmp .Is pl_con (h.var (i := 0) (by decide +kernel)) de_non) (dss_cons (ds_ret de_str)
      dss_nil) dss_nil)
      (dss_cons (ds_ret (h.str (by decide +kernel) m_str (pls_cons pl_name pls_nil) (da_cons pl_name (h.var (i := 0) (by decide +kernel)) da_nil)))
      dss_nil))
/-! read_places -/
def N_read_places : List Str := ["words", "places", "word"]
abbrev st_read_places : Stmt := top 7
abbrev ps_read_places : List Str := ["words"]
theorem sc_read_places : FnScope N_read_places ps_read_places (defScope st_read_places) := ⟨rfl, rfl, rfl, by decide +kernel, rfl, by decide +kernel, by decide +kernel⟩
def t_read_places_0_2 : DTS := dSeq (dRet (dVar 1)) dNext
def t_read_places_2_0 : DTS := dSeq (dDrop (dBm "list" mApp (dVar 1) (dCons (dC .non) dNil))) dNext
def t_read_places_4_0 : DTS := dSeq (dDrop (dBm "list" mApp (dVar 1) (dCons (dCl (s1 kInt) (dCons (dVar 2) dNil)) dNil))) dNext
def t_read_places_5_0 : DTS := dSeq (dRet (dC .non)) dNext
def t_read_places_3_0 : DTS := dSeq (dIf (dAndT (dBl (dOp (sCmp .Eq) (dCl (s1 kLenN) (dCons (dVar 2) dNil)) (dC (.int 1)))) (dBl (dOp (sCmp .In) (dVar 2) (dC (.str [48, 49, 50, 51, 52, 53, 54, 55, 56, 57]))))) t_read_places_4_0 t_read_places_5_0) dNext
def t_read_places_1_0 : DTS := dSeq (dIf (dBl (dOp (sCmp .Eq) (dVar 2) (dC (.str [45])))) t_read_places_2_0 t_read_places_3_0) dNext
def t_read_places_0_1 : DTS := dSeq (dFor (dRow (dVar 0)) (gN 2) t_read_places_1_0) t_read_places_0_2
def t_read_places_0_0 : DTS := dSeq (dAsg (dLst dNil) (gN 1)) t_read_places_0_1
abbrev t_read_places : DTS := t_read_places_0_0
theorem se_read_places (w0 : W) : startE N_read_places [w0] = [some w0, none, none] := rfl
theorem w_read_places {X : Cx} {k : Nat} (h : FX N_read_places (defScope st_read_places) none k X) (ho : PassesOwn (model X.prog X.w) X.A X.env X.xe) (m_len : X.mg "len" = none) (m_int : X.mg "int" = none) (g_DIGITS : ∃ t, X.mg "DIGITS" = some (.str "0123456789" t)) : DSs X (defBody st_read_places) (t_read_places) :=
    (dss_cons (ds_asg rfl rfl tg_name (de_lst da_nil) (h.tg (by decide +kernel)))
      (dss_cons (h.for_ ho pl_name (di_row (h.var (i := 0) (by decide +kernel))) (h.tg (by decide +kernel)) (dss_cons (ds_if (h.tcmp .Eq pl_con (h.var (i := 2) (by decide +kernel)) de_str) (dss_cons (ds_expr rfl (h.app ab_name (by decide +kernel) (pls_cons pl_con pls_nil) (h.var (i := 1) (by decide +kernel)) (da_cons pl_con de_non da_nil)))
      dss_nil) (dss_cons (ds_if (DW.dt (dw_and (h.tcmp .Eq pl_con (h.len (by decide +kernel) m_len (pls_cons pl_name pls_nil) (da_cons pl_name (h.var (i := 2) (by decide +kernel)) da_nil)) de_int) (dw_and1 (h.tcmp .In pl_name (h.var (i := 2) (by decide +kernel)) (h.gstr (by decide +kernel) g_DIGITS))))) (dss_cons (ds_expr rfl (h.app ab_name (by decide +kernel) (pls_cons pl_call pls_nil) (h.var (i := 1) (by decide +kernel)) (da_cons pl_call (h.int (by decide +kernel) m_int (pls_cons pl_name pls_nil) (da_cons pl_name (h.var (i := 2) (by decide +kernel)) da_nil)) da_nil)))
      dss_nil) (dss_cons (ds_ret de_non)
      dss_nil))
      dss_nil))
      dss_nil))
      (dss_cons (ds_ret (h.var (i := 1) (by decide +kernel)))
      dss_nil)))
/-! is_name -/
def N_is_name : List Str := ["word", "sign"]
abbrev st_is_name : Stmt := top 8
abbrev ps_is_name : List Str := ["word"]
theorem sc_is_name : FnScope N_is_name ps_is_name (defScope st_is_name) := ⟨rfl, rfl, rfl, by decide +kernel, rfl, by decide +kernel, by decide +kernel⟩
def t_is_name_0_1 : DTS := dSeq (dRet (dCl (s1 (kBls fun bs => bs.all id)) (dCons (dComp [1] (dRow (dVar 0)) (gN 1) dYes (dOp (sCmp .In) (dVar 1) (dC (.str [97, 98, 99, 100, 101, 102, 103, 104, 105, 106, 107, 108, 109, 110, 111, 112, 113, 114, 115, 116, 117, 118, 119, 120, 121, 122])))) dNil))) dNext
def t_is_name_1_0 : DTS := dSeq (dRet (dC (.bl false))) dNext
def t_is_name_0_0 : DTS := dSeq (dIf (dOrT (dBl (dOp (sCmp .Lt) (dCl (s1 kLenN) (dCons (dVar 0) dNil)) (dC (.int 1)))) (dBl (dOp (sCmp .Gt) (dCl (s1 kLenN) (dCons (dVar 0) dNil)) (dC (.int 8))))) t_is_name_1_0 dNext) t_is_name_0_1
abbrev t_is_name : DTS := t_is_name_0_0
theorem se_is_name (w0 : W) : startE N_is_name [w0] = [some w0, none] := rfl
theorem w_is_name {X : Cx} {k : Nat} (h : FX N_is_name (defScope st_is_name) none k X) (ho : PassesOwn (model X.prog X.w) X.A X.env X.xe) (m_all : X.mg "all" = none) (m_len : X.mg "len" = none) (g_SMALL_LETTERS : ∃ t, X.mg "SMALL_LETTERS" = some (.str "abcdefghijklmnopqrstuvwxyz" t)) : DSs X (defBody st_is_name) (t_is_name) :=
    (dss_cons (ds_if (DW.dt (dw_or (h.tcmp .Lt pl_con (h.len (by decide +kernel) m_len (pls_cons pl_name pls_nil) (da_cons pl_name (h.var (i := 0) (by decide +kernel)) da_nil)) de_int) (dw_or1 (h.tcmp .Gt pl_con (h.len (by decide +kernel) m_len (pls_cons pl_name pls_nil) (da_cons pl_name (h.var (i := 0) (by decide +kernel)) da_nil)) de_int)))) (dss_cons (ds_ret de_bl)
      dss_nil) dss_nil)
      (dss_cons (ds_ret (h.all (by decide +kernel) m_all (pls_cons pl_lc pls_nil) (da_cons pl_lc (h.comp (own := [("sign", 1)]) (sl := [1]) (by decide +kernel) (by decide +kernel) pl_name (di_row (h.var (i := 0) (by decide +kernel))) (fun _ h1 e0_1 e0_2 e0_3 e0_4 e0_5 => ⟨(h1.tg (by decide +kernel)), dts_nil, (h1.cmp .In pl_name (h1.var (i := 1) (by decide +kernel)) (h1.gstr (by decide +kernel) (mgs e0_4 g_SMALL_LETTERS)))⟩)) da_nil)))
      dss_nil))
/-! split_line -/
def N_split_line : List Str := ["line"]
abbrev st_split_line : Stmt := top 9
abbrev ps_split_line : List Str := ["line"]
theorem sc_split_line : FnScope N_split_line ps_split_line (defScope st_split_line) := ⟨rfl, rfl, rfl, by decide +kernel, rfl, by decide +kernel, by decide +kernel⟩
def t_split_line_0_1 : DTS := dSeq (dRet (dBm "str" mSplit (dVar 0) (dCons (dC (.str [32])) dNil))) dNext
def t_split_line_1_0 : DTS := dSeq (dRet (dLst dNil)) dNext
def t_split_line_0_0 : DTS := dSeq (dIf (dBl (dOp (sCmp .Eq) (dVar 0) (dC (.str [])))) t_split_line_1_0 dNext) t_split_line_0_1
abbrev t_split_line : DTS := t_split_line_0_0
theorem se_split_line (w0 : W) : startE N_split_line [w0] = [some w0] := rfl
theorem w_split_line {X : Cx} {k : Nat} (h : FX N_split_line (defScope st_split_line) none k X) (ho : PassesOwn (model X.prog X.w) X.A X.env X.xe) : DSs X (defBody st_split_line) (t_split_line) :=
    (dss_cons (ds_if (h.tcmp .Eq pl_con (h.var (i := 0) (by decide +kernel)) de_str) (dss_cons (ds_ret (de_lst da_nil))
      dss_nil) dss_nil)
      (dss_cons (ds_ret (h.split ab_name (by decide +kernel) (pls_cons pl_con pls_nil) (h.var (i := 0) (by decide +kernel)) (da_cons pl_con de_str da_nil)))
      dss_nil))
/-! _law_store -/
def N__law_store : List Str := ["script", "great", "cells", "cell"]
abbrev st__law_store : Stmt := top 11
abbrev ps__law_store : List Str := ["script"]
theorem sc__law_store : FnScope N__law_store ps__law_store (defScope st__law_store) := ⟨rfl, rfl, rfl, by decide +kernel, rfl, by decide +kernel, by decide +kernel⟩
def t__law_store_0_3 : DTS := dSeq (dRet (dLst (dCons (dVar 2) (dCons (dC (.int 0)) (dCons (dC (.int 0)) (dCons (dC (.int 0)) (dCons (dOp sAdd (dC (.int 20261)) (dOp sMul (dC (.int 7)) (dCl (s1 kLenN) (dCons (dVar 2) dNil)))) (dCons (dC (.int 0)) dNil)))))))) dNext
def t__law_store_2_0 : DTS := dSeq (dDrop (dBm "list" mApp (dVar 2) (dCons (dLst (dCons (dC (.int 1)) (dCons (dOp (sInt (fun _ j => 0 < j) fun i j => i % j) (dCl (s1 kAbs) (dCons (dVar 3) dNil)) (dVar 1)) dNil))) dNil))) dNext
def t__law_store_3_0 : DTS := dSeq (dDrop (dBm "list" mApp (dVar 2) (dCons (dLst (dCons (dC (.int 0)) (dCons (dOp (sInt (fun _ j => 0 < j) fun i j => i % j) (dCl (s1 kInt) (dCons (dVar 3) dNil)) (dC (.int 2147483647))) dNil))) dNil))) dNext
def t__law_store_1_0 : DTS := dSeq (dIf (dOrT (dBl (dOp (sCmp .GtE) (dVar 3) (dOp (sInt PowOk fun i j => i ^ j.toNat) (dC (.int 10)) (dC (.int 18))))) (dBl (dOp (sCmp .LtE) (dVar 3) (dOp (sInt (fun _ _ => True) fun i j => i - j) (dC (.int 0)) (dOp (sInt PowOk fun i j => i ^ j.toNat) (dC (.int 10)) (dC (.int 18))))))) t__law_store_2_0 t__law_store_3_0) dNext
def t__law_store_0_2 : DTS := dSeq (dFor (dRow (dVar 0)) (gN 3) t__law_store_1_0) t__law_store_0_3
def t__law_store_0_1 : DTS := dSeq (dAsg (dLst dNil) (gN 2)) t__law_store_0_2
def t__law_store_0_0 : DTS := dSeq (dAsg (dOp (sInt PowOk fun i j => i ^ j.toNat) (dOp (sInt PowOk fun i j => i ^ j.toNat) (dC (.int 10)) (dC (.int 60))) (dC (.int 10))) (gN 1)) t__law_store_0_1
abbrev t__law_store : DTS := t__law_store_0_0
theorem se__law_store (w0 : W) : startE N__law_store [w0] = [some w0, none, none, none] := rfl
theorem w__law_store {X : Cx} {k : Nat} (h : FX N__law_store (defScope st__law_store) none k X) (ho : PassesOwn (model X.prog X.w) X.A X.env X.xe) (m_len : X.mg "len" = none) (m_abs : X.mg "abs" = none) (m_int : X.mg "int" = none) : DSs X (defBody st__law_store) (t__law_store) :=
    (dss_cons (ds_asg rfl rfl tg_name (de_pow (de_pow de_int de_int) de_int) (h.tg (by decide +kernel)))
      (dss_cons (ds_asg rfl rfl tg_name (de_lst da_nil) (h.tg (by decide +kernel)))
      (dss_cons (h.for_ ho pl_name (di_row (h.var (i := 0) (by decide +kernel))) (h.tg (by decide +kernel)) (dss_cons (ds_if (DW.dt (dw_or (h.tcmp .GtE pl_bin (h.var (i := 3) (by decide +kernel)) (de_pow de_int de_int)) (dw_or1 (h.tcmp .LtE pl_bin (h.var (i := 3) (by decide +kernel)) (de_sub de_int (de_pow de_int de_int)))))) (dss_cons (ds_expr rfl (h.app ab_name (by decide +kernel) (pls_cons pl_lst pls_nil) (h.var (i := 2) (by decide +kernel)) (da_cons pl_lst (de_lst (da_cons pl_con de_int (da_cons pl_bin (de_mod (h.abs (by decide +kernel) m_abs (pls_cons pl_name pls_nil) (da_cons pl_name (h.var (i := 3) (by decide +kernel)) da_nil)) (h.var (i := 1) (by decide +kernel))) da_nil))) da_nil)))
      dss_nil) (dss_cons (ds_expr rfl (h.app ab_name (by decide +kernel) (pls_cons pl_lst pls_nil) (h.var (i := 2) (by decide +kernel)) (da_cons pl_lst (de_lst (da_cons pl_con de_int (da_cons pl_bin (de_mod (h.int (by decide +kernel) m_int (pls_cons pl_name pls_nil) (da_cons pl_name (h.var (i := 3) (by decide +kernel)) da_nil)) de_int) da_nil))) da_nil)))
      dss_nil))
      dss_nil))
      (dss_cons (ds_ret (de_lst (da_cons pl_name (h.var (i := 2) (by decide +kernel)) (da_cons pl_con de_int (da_cons pl_con de_int (da_cons pl_con de_int (da_cons pl_bin (de_add de_int (de_mul de_int (h.len (by decide +kernel) m_len (pls_cons pl_name pls_nil) (da_cons pl_name (h.var (i := 2) (by decide +kernel)) da_nil)))) (da_cons pl_con de_int da_nil))))))))
      dss_nil))))
/-! _law_take -/
def N__law_take : List Str := ["store", "many", "cell", "digit", "mixed"]
abbrev st__law_take : Stmt := top 12
abbrev ps__law_take : List Str := ["store", "many"]
theorem sc__law_take : FnScope N__law_take ps__law_take (defScope st__law_take) := ⟨rfl, rfl, rfl, by decide +kernel, rfl, by decide +kernel, by decide +kernel⟩
def t__law_take_0_7 : DTS := dSeq (dRet (dOp (sInt (fun _ j => 0 < j) fun i j => i % j) (dOp (sInt DivOk fun i j => i / j) (dVar 4) (dC (.int 8))) (dVar 1))) dNext
def t__law_take_0_6 : DTS := dSeq (dAsg (dOp (sInt (fun _ j => 0 < j) fun i j => i % j) (dCl (s1 kInt) (dCons (dOp sAdd (dOp sMul (dVar 4) (dC (.int 40692))) (dOp (sInt DivOk fun i j => i / j) (dOp sIx (dVar 0) (dC (.int 4))) (dC (.int 3)))) dNil)) (dC (.int 2147483399))) (gN 4)) t__law_take_0_7
def t__law_take_0_5 : DTS := dSeq (dAsg (dOp (sInt (fun _ j => 0 < j) fun i j => i % j) (dCl (s1 kInt) (dCons (dOp sAdd (dOp sMul (dOp sIx (dVar 0) (dC (.int 4))) (dOp sIx (dVar 0) (dC (.int 4)))) (dOp sMul (dOp sIx (dVar 0) (dC (.int 5))) (dC (.int 104729)))) dNil)) (dC (.int 2147483629))) (gN 4)) t__law_take_0_6
def t__law_take_0_4 : DTS := dSeq (dAsg (dOp (sInt (fun _ j => 0 < j) fun i j => i % j) (dCl (s1 kInt) (dCons (dOp sAdd (dOp sAdd (dOp sMul (dOp sIx (dVar 0) (dC (.int 4))) (dC (.int 48271))) (dOp sMul (dOp sIx (dVar 0) (dC (.int 5))) (dC (.int 7919)))) (dC (.int 11))) dNil)) (dC (.int 2147483647))) (gSub (dVar 0) (dC (.int 4)))) t__law_take_0_5
def t__law_take_0_3 : DTS := dSeq (dAsg (dCl (s2 (kI2 fun i j => if j > i then j else i)) (dCons (dC (.int 0)) (dCons (dOp (sInt (fun _ _ => True) fun i j => i - j) (dOp sIx (dVar 0) (dC (.int 3))) (dC (.int 1))) dNil))) (gSub (dVar 0) (dC (.int 3)))) t__law_take_0_4
def t__law_take_1_2 : DTS := dSeq (dRet (dVar 3)) dNext
def t__law_take_1_1 : DTS := dSeq (dAsg (dOp (sInt DivOk fun i j => i / j) (dOp sIx (dVar 0) (dC (.int 2))) (dVar 1)) (gSub (dVar 0) (dC (.int 2)))) t__law_take_1_2
def t__law_take_1_0 : DTS := dSeq (dAsg (dOp (sInt (fun _ j => 0 < j) fun i j => i % j) (dCl (s1 kInt) (dCons (dOp sIx (dVar 0) (dC (.int 2))) dNil)) (dVar 1)) (gN 3)) t__law_take_1_1
def t__law_take_0_2 : DTS := dSeq (dIf (dBl (dOp (sCmp .Gt) (dOp sIx (dVar 0) (dC (.int 2))) (dC (.int 0)))) t__law_take_1_0 dNext) t__law_take_0_3
def t__law_take_3_0 : DTS := dSeq (dAsg (dOp sIx (dVar 2) (dC (.int 1))) (gSub (dVar 0) (dC (.int 2)))) dNext
def t__law_take_4_0 : DTS := dSeq (dAsg (dC (.int 5)) (gSub (dVar 0) (dC (.int 3)))) dNext
def t__law_take_2_3 : DTS := dSeq (dIf (dBl (dOp (sCmp .Eq) (dOp sIx (dVar 2) (dC (.int 0))) (dC (.int 1)))) t__law_take_3_0 t__law_take_4_0) dNext
def t__law_take_2_2 : DTS := dSeq (dAsg (dOp (sInt (fun _ j => 0 < j) fun i j => i % j) (dCl (s1 kInt) (dCons (dOp sAdd (dOp sAdd (dOp sMul (dOp sIx (dVar 0) (dC (.int 4))) (dC (.int 69621))) (dOp sMul (dOp (sInt (fun _ j => 0 < j) fun i j => i % j) (dCl (s1 kInt) (dCons (dOp sIx (dVar 2) (dC (.int 1))) dNil)) (dC (.int 2147483647))) (dC (.int 40014)))) (dC (.int 12345))) dNil)) (dC (.int 2147483647))) (gSub (dVar 0) (dC (.int 4)))) t__law_take_2_3
def t__law_take_2_1 : DTS := dSeq (dAsg (dOp sAdd (dOp sIx (dVar 0) (dC (.int 1))) (dC (.int 1))) (gSub (dVar 0) (dC (.int 1)))) t__law_take_2_2
def t__law_take_2_0 : DTS := dSeq (dAsg (dOp sIx (dOp sIx (dVar 0) (dC (.int 0))) (dOp sIx (dVar 0) (dC (.int 1)))) (gN 2)) t__law_take_2_1
def t__law_take_0_1 : DTS := dSeq (dIf (dAndT (dBl (dOp (sCmp .Eq) (dOp sIx (dVar 0) (dC (.int 2))) (dC (.int 0)))) (dAndT (dBl (dOp (sCmp .Eq) (dOp sIx (dVar 0) (dC (.int 3))) (dC (.int 0)))) (dBl (dOp (sCmp .Lt) (dOp sIx (dVar 0) (dC (.int 1))) (dCl (s1 kLenN) (dCons (dOp sIx (dVar 0) (dC (.int 0))) dNil)))))) t__law_take_2_0 dNext) t__law_take_0_2
def t__law_take_0_0 : DTS := dSeq (dAsg (dOp sAdd (dOp sIx (dVar 0) (dC (.int 5))) (dC (.int 1))) (gSub (dVar 0) (dC (.int 5)))) t__law_take_0_1
abbrev t__law_take : DTS := t__law_take_0_0
theorem se__law_take (w0 w1 : W) : startE N__law_take [w0, w1] = [some w0, some w1, none, none, none] := rfl
theorem w__law_take {X : Cx} {k : Nat} (h : FX N__law_take (defScope st__law_take) none k X) (ho : PassesOwn (model X.prog X.w) X.A X.env X.xe) (m_int : X.mg "int" = none) (m_max : X.mg "max" = none) (m_len : X.mg "len" = none) : DSs X (defBody st__law_take) (t__law_take) :=
    (dss_cons (ds_asg rfl rfl tg_sub (de_add (de_ix pl_con (h.var (i := 0) (by decide +kernel)) de_int) de_int) (dg_sub (h.var (i := 0) (by decide +kernel)) de_int fun _ => rfl))
      (dss_cons (ds_if (DW.dt (dw_and (h.tcmp .Eq pl_con (de_ix pl_con (h.var (i := 0) (by decide +kernel)) de_int) de_int) (dw_and (h.tcmp .Eq pl_con (de_ix pl_con (h.var (i := 0) (by decide +kernel)) de_int) de_int) (dw_and1 (h.tcmp .Lt pl_call (de_ix pl_con (h.var (i := 0) (by decide +kernel)) de_int) (h.len (by decide +kernel) m_len (pls_cons pl_sub pls_nil) (da_cons pl_sub (de_ix pl_con (h.var (i := 0) (by decide +kernel)) de_int) da_nil))))))) (dss_cons (ds_asg rfl rfl tg_name (de_ix pl_sub (de_ix pl_con (h.var (i := 0) (by decide +kernel)) de_int) (de_ix pl_con (h.var (i := 0) (by decide +kernel)) de_int)) (h.tg (by decide +kernel)))
      (dss_cons (ds_asg rfl rfl tg_sub (de_add (de_ix pl_con (h.var (i := 0) (by decide +kernel)) de_int) de_int) (dg_sub (h.var (i := 0) (by decide +kernel)) de_int fun _ => rfl))
      (dss_cons (ds_asg rfl rfl tg_sub (de_mod (h.int (by decide +kernel) m_int (pls_cons pl_bin pls_nil) (da_cons pl_bin (de_add (de_add (de_mul (de_ix pl_con (h.var (i := 0) (by decide +kernel)) de_int) de_int) (de_mul (de_mod (h.int (by decide +kernel) m_int (pls_cons pl_sub pls_nil) (da_cons pl_sub (de_ix pl_con (h.var (i := 2) (by decide +kernel)) de_int) da_nil)) de_int) de_int)) de_int) da_nil)) de_int) (dg_sub (h.var (i := 0) (by decide +kernel)) de_int fun _ => rfl))
      (dss_cons (ds_if (h.tcmp .Eq pl_con (de_ix pl_con (h.var (i := 2) (by decide +kernel)) de_int) de_int) (dss_cons (ds_asg rfl rfl tg_sub (de_ix pl_con (h.var (i := 2) (by decide +kernel)) de_int) (dg_sub (h.var (i := 0) (by decide +kernel)) de_int fun _ => rfl))
      dss_nil) (dss_cons (ds_asg rfl rfl tg_sub de_int (dg_sub (h.var (i := 0) (by decide +kernel)) de_int fun _ => rfl))
      dss_nil))
      dss_nil)))) dss_nil)
      (dss_cons (ds_if (h.tcmp .Gt pl_con (de_ix pl_con (h.var (i := 0) (by decide +kernel)) de_int) de_int) (dss_cons (ds_asg rfl rfl tg_name (de_mod (h.int (by decide +kernel) m_int (pls_cons pl_sub pls_nil) (da_cons pl_sub (de_ix pl_con (h.var (i := 0) (by decide +kernel)) de_int) da_nil)) (h.var (i := 1) (by decide +kernel))) (h.tg (by decide +kernel)))
      (dss_cons (ds_asg rfl rfl tg_sub (de_fdiv (de_ix pl_con (h.var (i := 0) (by decide +kernel)) de_int) (h.var (i := 1) (by decide +kernel))) (dg_sub (h.var (i := 0) (by decide +kernel)) de_int fun _ => rfl))
      (dss_cons (ds_ret (h.var (i := 3) (by decide +kernel)))
      dss_nil))) dss_nil)
      (dss_cons (ds_asg rfl rfl tg_sub (h.max2 (by decide +kernel) m_max (pls_cons pl_con (pls_cons pl_bin pls_nil)) (da_cons pl_con de_int (da_cons pl_bin (de_sub (de_ix pl_con (h.var (i := 0) (by decide +kernel)) de_int) de_int) da_nil))) (dg_sub (h.var (i := 0) (by decide +kernel)) de_int fun _ => rfl))
      (dss_cons (ds_asg rfl rfl tg_sub (de_mod (h.int (by decide +kernel) m_int (pls_cons pl_bin pls_nil) (da_cons pl_bin (de_add (de_add (de_mul (de_ix pl_con (h.var (i := 0) (by decide +kernel)) de_int) de_int) (de_mul (de_ix pl_con (h.var (i := 0) (by decide +kernel)) de_int) de_int)) de_int) da_nil)) de_int) (dg_sub (h.var (i := 0) (by decide +kernel)) de_int fun _ => rfl))
      (dss_cons (ds_asg rfl rfl tg_name (de_mod (h.int (by decide +kernel) m_int (pls_cons pl_bin pls_nil) (da_cons pl_bin (de_add (de_mul (de_ix pl_con (h.var (i := 0) (by decide +kernel)) de_int) (de_ix pl_con (h.var (i := 0) (by decide +kernel)) de_int)) (de_mul (de_ix pl_con (h.var (i := 0) (by decide +kernel)) de_int) de_int)) da_nil)) de_int) (h.tg (by decide +kernel)))
      (dss_cons (ds_asg rfl rfl tg_name (de_mod (h.int (by decide +kernel) m_int (pls_cons pl_bin pls_nil) (da_cons pl_bin (de_add (de_mul (h.var (i := 4) (by decide +kernel)) de_int) (de_fdiv (de_ix pl_con (h.var (i := 0) (by decide +kernel)) de_int) de_int)) da_nil)) de_int) (h.tg (by decide +kernel)))
      (dss_cons (ds_ret (de_mod (de_fdiv (h.var (i := 4) (by decide +kernel)) de_int) (h.var (i := 1) (by decide +kernel))))
      dss_nil))))))))
/-! _law_pick -/
def N__law_pick : List Str := ["store", "items"]
abbrev st__law_pick : Stmt := top 13
abbrev ps__law_pick : List Str := ["store", "items"]
theorem sc__law_pick : FnScope N__law_pick ps__law_pick (defScope st__law_pick) := ⟨rfl, rfl, rfl, by decide +kernel, rfl, by decide +kernel, by decide +kernel⟩
def t__law_pick_0_0 : DTS := dSeq (dRet (dOp sIx (dVar 1) (dCall 2 S__law_take (dCons (dVar 0) (dCons (dCl (s1 kLenN) (dCons (dVar 1) dNil)) dNil))))) dNext
abbrev t__law_pick : DTS := t__law_pick_0_0
theorem se__law_pick (w0 w1 : W) : startE N__law_pick [w0, w1] = [some w0, some w1] := rfl
theorem w__law_pick {X : Cx} {k : Nat} (h : FX N__law_pick (defScope st__law_pick) none k X) (ho : PassesOwn (model X.prog X.w) X.A X.env X.xe) {l__law_take : Nat} (c__law_take : DFn X.prog X.w X.K X.mg X.base "_law_take" ps__law_take l__law_take S__law_take) (j__law_take : Nat.ble l__law_take k = true) (m_len : X.mg "len" = none) : DSs X (defBody st__law_pick) (t__law_pick) :=
    (dss_cons (ds_ret (de_ix pl_call (h.var (i := 1) (by decide +kernel)) (h.call c__law_take j__law_take (by decide +kernel) (pls_cons pl_name (pls_cons pl_call pls_nil)) (da_cons pl_name (h.var (i := 0) (by decide +kernel)) (da_cons pl_call (h.len (by decide +kernel) m_len (pls_cons pl_name pls_nil) (da_cons pl_name (h.var (i := 1) (by decide +kernel)) da_nil)) da_nil)))))
      dss_nil)
/-! _law_between -/
def N__law_between : List Str := ["store", "low", "high", "choice"]
abbrev st__law_between : Stmt := top 14
abbrev ps__law_between : List Str := ["store", "low", "high"]
theorem sc__law_between : FnScope N__law_between ps__law_between (defScope st__law_between) := ⟨rfl, rfl, rfl, by decide +kernel, rfl, by decide +kernel, by decide +kernel⟩
def t__law_between_0_5 : DTS := dSeq (dRet (dOp sAdd (dVar 1) (dCall 2 S__law_take (dCons (dVar 0) (dCons (dOp sAdd (dOp (sInt (fun _ _ => True) fun i j => i - j) (dVar 2) (dVar 1)) (dC (.int 1))) dNil))))) dNext
def t__law_between_1_0 : DTS := dSeq (dRet (dOp sAdd (dVar 1) (dC (.int 1)))) dNext
def t__law_between_0_4 : DTS := dSeq (dIf (dBl (dOp (sCmp .Eq) (dVar 3) (dC (.int 2)))) t__law_between_1_0 dNext) t__law_between_0_5
def t__law_between_2_0 : DTS := dSeq (dRet (dVar 2)) dNext
def t__law_between_0_3 : DTS := dSeq (dIf (dBl (dOp (sCmp .Eq) (dVar 3) (dC (.int 1)))) t__law_between_2_0 dNext) t__law_between_0_4
def t__law_between_3_0 : DTS := dSeq (dRet (dVar 1)) dNext
def t__law_between_0_2 : DTS := dSeq (dIf (dBl (dOp (sCmp .Eq) (dVar 3) (dC (.int 0)))) t__law_between_3_0 dNext) t__law_between_0_3
def t__law_between_0_1 : DTS := dSeq (dAsg (dCall 2 S__law_take (dCons (dVar 0) (dCons (dC (.int 6)) dNil))) (gN 3)) t__law_between_0_2
def t__law_between_4_0 : DTS := dSeq (dRet (dVar 1)) dNext
def t__law_between_0_0 : DTS := dSeq (dIf (dBl (dOp (sCmp .LtE) (dVar 2) (dVar 1))) t__law_between_4_0 dNext) t__law_between_0_1
abbrev t__law_between : DTS := t__law_between_0_0
theorem se__law_between (w0 w1 w2 : W) : startE N__law_between [w0, w1, w2] = [some w0, some w1, some w2, none] := rfl
theorem w__law_between {X : Cx} {k : Nat} (h : FX N__law_between (defScope st__law_between) none k X) (ho : PassesOwn (model X.prog X.w) X.A X.env X.xe) {l__law_take : Nat} (c__law_take : DFn X.prog X.w X.K X.mg X.base "_law_take" ps__law_take l__law_take S__law_take) (j__law_take : Nat.ble l__law_take k = true) : DSs X (defBody st__law_between) (t__law_between) :=
    (dss_cons (ds_if (h.tcmp .LtE pl_name (h.var (i := 2) (by decide +kernel)) (h.var (i := 1) (by decide +kernel))) (dss_cons (ds_ret (h.var (i := 1) (by decide +kernel)))
      dss_nil) dss_nil)
      (dss_cons (ds_asg rfl rfl tg_name (h.call c__law_take j__law_take (by decide +kernel) (pls_cons pl_name (pls_cons pl_con pls_nil)) (da_cons pl_name (h.var (i := 0) (by decide +kernel)) (da_cons pl_con de_int da_nil))) (h.tg (by decide +kernel)))
      (dss_cons (ds_if (h.tcmp .Eq pl_con (h.var (i := 3) (by decide +kernel)) de_int) (dss_cons (ds_ret (h.var (i := 1) (by decide +kernel)))
      dss_nil) dss_nil)
      (dss_cons (ds_if (h.tcmp .Eq pl_con (h.var (i := 3) (by decide +kernel)) de_int) (dss_cons (ds_ret (h.var (i := 2) (by decide +kernel)))
      dss_nil) dss_nil)
      (dss_cons (ds_if (h.tcmp .Eq pl_con (h.var (i := 3) (by decide +kernel)) de_int) (dss_cons (ds_ret (de_add (h.var (i := 1) (by decide +kernel)) de_int))
      dss_nil) dss_nil)
      (dss_cons (ds_ret (de_add (h.var (i := 1) (by decide +kernel)) (h.call c__law_take j__law_take (by decide +kernel) (pls_cons pl_name (pls_cons pl_bin pls_nil)) (da_cons pl_name (h.var (i := 0) (by decide +kernel)) (da_cons pl_bin (de_add (de_sub (h.var (i := 2) (by decide +kernel)) (h.var (i := 1) (by decide +kernel))) de_int) da_nil)))))
      dss_nil))))))
/-! _law_char -/
def N__law_char : List Str := ["store", "chars"]
abbrev st__law_char : Stmt := top 15
abbrev ps__law_char : List Str := ["store"]
theorem sc__law_char : FnScope N__law_char ps__law_char (defScope st__law_char) := ⟨rfl, rfl, rfl, by decide +kernel, rfl, by decide +kernel, by decide +kernel⟩
def t__law_char_0_2 : DTS := dSeq (dRet (dOp sIx (dVar 1) (dCall 2 S__law_take (dCons (dVar 0) (dCons (dCl (s1 kLenN) (dCons (dVar 1) dNil)) dNil))))) dNext
def t__law_char_0_1 : DTS := dSeq (dAsg (dOp sAdd (dVar 1) (dC (.str [97, 98, 99, 100, 101, 102, 103, 104, 105, 106, 107, 108, 109, 110, 111, 112, 113, 114, 115, 116, 117, 118, 119, 120, 121, 122, 123, 124, 125, 126]))) (gN 1)) t__law_char_0_2
def t__law_char_0_0 : DTS := dSeq (dAsg (dC (.str [32, 33, 34, 35, 36, 38, 39, 40, 41, 42, 43, 44, 45, 46, 47, 48, 49, 50, 51, 52, 53, 54, 55, 56, 57, 58, 59, 60, 61, 62, 63, 64, 65, 66, 67, 68, 69, 70, 71, 72, 73, 74, 75, 76, 77, 78, 79, 80, 81, 82, 83, 84, 85, 86, 87, 88, 89, 90, 91, 92, 93, 94, 95, 96])) (gN 1)) t__law_char_0_1
abbrev t__law_char : DTS := t__law_char_0_0
theorem se__law_char (w0 : W) : startE N__law_char [w0] = [some w0, none] := rfl
theorem w__law_char {X : Cx} {k : Nat} (h : FX N__law_char (defScope st__law_char) none k X) (ho : PassesOwn (model X.prog X.w) X.A X.env X.xe) {l__law_take : Nat} (c__law_take : DFn X.prog X.w X.K X.mg X.base "_law_take" ps__law_take l__law_take S__law_take) (j__law_take : Nat.ble l__law_take k = true) (m_len : X.mg "len" = none) : DSs X (defBody st__law_char) (t__law_char) :=
    (dss_cons (ds_asg rfl rfl tg_name de_str (h.tg (by decide +kernel)))
      (dss_cons (ds_asg rfl rfl tg_name (de_add (h.var (i := 1) (by decide +kernel)) de_str) (h.tg (by decide +kernel)))
      (dss_cons (ds_ret (de_ix pl_call (h.var (i := 1) (by decide +kernel)) (h.call c__law_take j__law_take (by decide +kernel) (pls_cons pl_name (pls_cons pl_call pls_nil)) (da_cons pl_name (h.var (i := 0) (by decide +kernel)) (da_cons pl_call (h.len (by decide +kernel) m_len (pls_cons pl_name pls_nil) (da_cons pl_name (h.var (i := 1) (by decide +kernel)) da_nil)) da_nil)))))
      dss_nil)))
/-! _law_text -/
def N__law_text : List Str := ["store", "most", "k"]
abbrev st__law_text : Stmt := top 16
abbrev ps__law_text : List Str := ["store", "most"]
theorem sc__law_text : FnScope N__law_text ps__law_text (defScope st__law_text) := ⟨rfl, rfl, rfl, by decide +kernel, rfl, by decide +kernel, by decide +kernel⟩
def t__law_text_0_0 : DTS := dSeq (dRet (dBm "str" mJoin (dC (.str [])) (dCons (dComp [2] (dRng1 (dCall 3 S__law_between (dCons (dVar 0) (dCons (dC (.int 0)) (dCons (dVar 1) dNil))))) (gN 2) dYes (dCall 1 S__law_char (dCons (dVar 0) dNil))) dNil))) dNext
abbrev t__law_text : DTS := t__law_text_0_0
theorem se__law_text (w0 w1 : W) : startE N__law_text [w0, w1] = [some w0, some w1, none] := rfl
theorem w__law_text {X : Cx} {k : Nat} (h : FX N__law_text (defScope st__law_text) none k X) (ho : PassesOwn (model X.prog X.w) X.A X.env X.xe) {l__law_between : Nat} (c__law_between : DFn X.prog X.w X.K X.mg X.base "_law_between" ps__law_between l__law_between S__law_between) (j__law_between : Nat.ble l__law_between k = true) {l__law_char : Nat} (c__law_char : DFn X.prog X.w X.K X.mg X.base "_law_char" ps__law_char l__law_char S__law_char) (j__law_char : Nat.ble l__law_char k = true) (m_range : X.mg "range" = none) : DSs X (defBody st__law_text) (t__law_text) :=
    (dss_cons (ds_ret (h.join ab_con (by decide +kernel) (pls_cons pl_lc pls_nil) de_str (da_cons pl_lc (h.comp (own := [("k", 2)]) (sl := [2]) (by decide +kernel) (by decide +kernel) pl_call (h.rng1 (by decide +kernel) m_range pl_call (h.call c__law_between j__law_between (by decide +kernel) (pls_cons pl_name (pls_cons pl_con (pls_cons pl_name pls_nil))) (da_cons pl_name (h.var (i := 0) (by decide +kernel)) (da_cons pl_con de_int (da_cons pl_name (h.var (i := 1) (by decide +kernel)) da_nil))))) (fun _ h1 e0_1 e0_2 e0_3 e0_4 e0_5 => ⟨(h1.tg (by decide +kernel)), dts_nil, (h1.call (c__law_char.on e0_1 e0_2 e0_3 e0_4 e0_5) j__law_char (by decide +kernel) (pls_cons pl_name pls_nil) (da_cons pl_name (h1.var (i := 0) (by decide +kernel)) da_nil))⟩)) da_nil)))
      dss_nil)
/-! _law_name -/
def N__law_name : List Str := ["store", "small", "word", "k"]
abbrev st__law_name : Stmt := top 17
abbrev ps__law_name : List Str := ["store"]
theorem sc__law_name : FnScope N__law_name ps__law_name (defScope st__law_name) := ⟨rfl, rfl, rfl, by decide +kernel, rfl, by decide +kernel, by decide +kernel⟩
def t__law_name_0_4 : DTS := dSeq (dRet (dVar 2)) dNext
def t__law_name_1_0 : DTS := dSeq (dAsg (dOp sAdd (dC (.str [97])) (dSl (dVar 2) (dSo (dC (.int 1))) dNo)) (gN 2)) dNext
def t__law_name_0_3 : DTS := dSeq (dIf (dBl (dOp (sCmp .Eq) (dSl (dVar 2) dNo (dSo (dC (.int 2)))) (dC (.str [122, 122])))) t__law_name_1_0 dNext) t__law_name_0_4
def t__law_name_3_0 : DTS := dSeq (dAsg (dOp sAdd (dVar 2) (dOp sIx (dVar 2) (dC (.int 0)))) (gN 2)) dNext
def t__law_name_4_0 : DTS := dSeq (dAsg (dOp sAdd (dVar 2) (dOp sIx (dVar 1) (dCall 2 S__law_take (dCons (dVar 0) (dCons (dC (.int 26)) dNil))))) (gN 2)) dNext
def t__law_name_2_0 : DTS := dSeq (dIf (dAndT (dBl (dOp (sCmp .Gt) (dVar 3) (dC (.int 0)))) (dBl (dOp (sCmp .Eq) (dCall 2 S__law_take (dCons (dVar 0) (dCons (dC (.int 2)) dNil))) (dC (.int 0))))) t__law_name_3_0 t__law_name_4_0) dNext
def t__law_name_0_2 : DTS := dSeq (dFor (dRng1 (dCall 3 S__law_between (dCons (dVar 0) (dCons (dC (.int 1)) (dCons (dC (.int 8)) dNil))))) (gN 3) t__law_name_2_0) t__law_name_0_3
def t__law_name_0_1 : DTS := dSeq (dAsg (dC (.str [])) (gN 2)) t__law_name_0_2
def t__law_name_0_0 : DTS := dSeq (dAsg (dC (.str [97, 98, 99, 100, 101, 102, 103, 104, 105, 106, 107, 108, 109, 110, 111, 112, 113, 114, 115, 116, 117, 118, 119, 120, 121, 122])) (gN 1)) t__law_name_0_1
abbrev t__law_name : DTS := t__law_name_0_0
theorem se__law_name (w0 : W) : startE N__law_name [w0] = [some w0, none, none, none] := rfl
theorem w__law_name {X : Cx} {k : Nat} (h : FX N__law_name (defScope st__law_name) none k X) (ho : PassesOwn (model X.prog X.w) X.A X.env X.xe) {l__law_between : Nat} (c__law_between : DFn X.prog X.w X.K X.mg X.base "_law_between" ps__law_between l__law_between S__law_between) (j__law_between : Nat.ble l__law_between k = true) {l__law_take : Nat} (c__law_take : DFn X.prog X.w X.K X.mg X.base "_law_take" ps__law_take l__law_take S__law_take) (j__law_take : Nat.ble l__law_take k = true) (m_range : X.mg "range" = none) : DSs X (defBody st__law_name) (t__law_name) :=
    (dss_cons (ds_asg rfl rfl tg_name de_str (h.tg (by decide +kernel)))
      (dss_cons (ds_asg rfl rfl tg_name de_str (h.tg (by decide +kernel)))
      (dss_cons (h.for_ ho pl_call (h.rng1 (by decide +kernel) m_range pl_call (h.call c__law_between j__law_between (by decide +kernel) (pls_cons pl_name (pls_cons pl_con (pls_cons pl_con pls_nil))) (da_cons pl_name (h.var (i := 0) (by decide +kernel)) (da_cons pl_con de_int (da_cons pl_con de_int da_nil))))) (h.tg (by decide +kernel)) (dss_cons (ds_if (DW.dt (dw_and (h.tcmp .Gt pl_con (h.var (i := 3) (by decide +kernel)) de_int) (dw_and1 (h.tcmp .Eq pl_con (h.call c__law_take j__law_take (by decide +kernel) (pls_cons pl_name (pls_cons pl_con pls_nil)) (da_cons pl_name (h.var (i := 0) (by decide +kernel)) (da_cons pl_con de_int da_nil))) de_int)))) (dss_cons (ds_asg rfl rfl tg_name (de_add (h.var (i := 2) (by decide +kernel)) (de_ix pl_con (h.var (i := 2) (by decide +kernel)) de_int)) (h.tg (by decide +kernel)))
      dss_nil) (dss_cons (ds_asg rfl rfl tg_name (de_add (h.var (i := 2) (by decide +kernel)) (de_ix pl_call (h.var (i := 1) (by decide +kernel)) (h.call c__law_take j__law_take (by decide +kernel) (pls_cons pl_name (pls_cons pl_con pls_nil)) (da_cons pl_name (h.var (i := 0) (by decide +kernel)) (da_cons pl_con de_int da_nil))))) (h.tg (by decide +kernel)))
      dss_nil))
      dss_nil))
      (dss_cons (ds_if (h.tcmp .Eq pl_con (de_sl (h.var (i := 2) (by decide +kernel)) do_no (do_so de_int)) de_str) (dss_cons (ds_asg rfl rfl tg_name (de_add de_str (de_sl (h.var (i := 2) (by decide +kernel)) (do_so de_int) do_no)) (h.tg (by decide +kernel)))
      dss_nil) dss_nil)
      (dss_cons (ds_ret (h.var (i := 2) (by decide +kernel)))
      dss_nil)))))
/-! _law_word -/
def N__law_word : List Str := ["store", "words"]
abbrev st__law_word : Stmt := top 18
abbrev ps__law_word : List Str := ["store"]
theorem sc__law_word : FnScope N__law_word ps__law_word (defScope st__law_word) := ⟨rfl, rfl, rfl, by decide +kernel, rfl, by decide +kernel, by decide +kernel⟩
def t__law_word_0_6 : DTS := dSeq (dRet (dCall 2 S__law_pick (dCons (dVar 0) (dCons (dVar 1) dNil)))) dNext
def t__law_word_1_0 : DTS := dSeq (dRet (dCall 2 S__law_text (dCons (dVar 0) (dCons (dC (.int 6)) dNil)))) dNext
def t__law_word_0_5 : DTS := dSeq (dIf (dBl (dOp (sCmp .Eq) (dCall 2 S__law_take (dCons (dVar 0) (dCons (dC (.int 4)) dNil))) (dC (.int 0)))) t__law_word_1_0 dNext) t__law_word_0_6
def t__law_word_0_4 : DTS := dSeq (dAsg (dOp sAdd (dVar 1) (dLst (dCons (dC (.str [108, 101, 116, 116, 101, 114, 115])) (dCons (dC (.str [120, 46])) dNil)))) (gN 1)) t__law_word_0_5
def t__law_word_0_3 : DTS := dSeq (dAsg (dOp sAdd (dVar 1) (dLst (dCons (dC (.str [124])) (dCons (dC (.str [70])) (dCons (dC (.str [49, 68])) (dCons (dC (.str [68, 49])) (dCons (dC (.str [68])) (dCons (dC (.str [115, 97, 109, 101])) (dCons (dC (.str [102, 100])) (dCons (dC (.str [112, 108, 97, 105, 110])) (dCons (dC (.str [116, 117, 114, 110, 101, 100])) (dCons (dC (.str [108, 101, 102, 116])) (dCons (dC (.str [117, 110, 100, 101, 114])) (dCons (dC (.str [103, 111, 101, 115])) (dCons (dC (.str [107, 105, 110, 100])) dNil))))))))))))))) (gN 1)) t__law_word_0_4
def t__law_word_0_2 : DTS := dSeq (dAsg (dOp sAdd (dVar 1) (dLst (dCons (dC (.str [82, 48])) (dCons (dC (.str [120, 49])) (dCons (dC (.str [48, 114])) (dCons (dC (.str [114, 45, 49])) (dCons (dC (.str [114, 114, 48])) (dCons (dC (.str [97])) (dCons (dC (.str [122])) (dCons (dC (.str [97, 98, 99, 100, 101, 102, 103, 104])) (dCons (dC (.str [97, 98, 99, 100, 101, 102, 103, 104, 105])) (dCons (dC (.str [97, 66])) (dCons (dC (.str [97, 49])) (dCons (dC (.str [114, 111, 119])) (dCons (dC (.str [46])) (dCons (dC (.str [47])) dNil)))))))))))))))) (gN 1)) t__law_word_0_3
def t__law_word_0_1 : DTS := dSeq (dAsg (dOp sAdd (dVar 1) (dLst (dCons (dC (.str [45, 49])) (dCons (dC (.str [43, 49])) (dCons (dC (.str [49, 46])) (dCons (dC (.str [49, 95, 48])) (dCons (dC (.str [32, 49])) (dCons (dC (.str [114, 48])) (dCons (dC (.str [99, 48])) (dCons (dC (.str [114])) (dCons (dC (.str [99])) (dCons (dC (.str [114, 48, 49])) (dCons (dC (.str [99, 49, 50])) (dCons (dC (.str [114, 49, 50, 51, 52, 53, 54, 55, 56, 57])) (dCons (dC (.str [114, 49, 50, 51, 52, 53, 54, 55, 56, 57, 48])) dNil))))))))))))))) (gN 1)) t__law_word_0_2
def t__law_word_0_0 : DTS := dSeq (dAsg (dLst (dCons (dC (.str [])) (dCons (dC (.str [48])) (dCons (dC (.str [48, 48])) (dCons (dC (.str [48, 49])) (dCons (dC (.str [55])) (dCons (dC (.str [57])) (dCons (dC (.str [49, 48])) (dCons (dC (.str [49, 50])) (dCons (dC (.str [49, 50, 51, 52, 53, 54, 55, 56, 57])) (dCons (dC (.str [57, 57, 57, 57, 57, 57, 57, 57, 57])) (dCons (dC (.str [49, 50, 51, 52, 53, 54, 55, 56, 57, 48])) (dCons (dC (.str [48, 49, 50, 51, 52, 53, 54, 55, 56, 57])) (dCons (dC (.str [45])) (dCons (dC (.str [45, 45])) dNil))))))))))))))) (gN 1)) t__law_word_0_1
abbrev t__law_word : DTS := t__law_word_0_0
theorem se__law_word (w0 : W) : startE N__law_word [w0] = [some w0, none] := rfl
theorem w__law_word {X : Cx} {k : Nat} (h : FX N__law_word (defScope st__law_word) none k X) (ho : PassesOwn (model X.prog X.w) X.A X.env X.xe) {l__law_pick : Nat} (c__law_pick : DFn X.prog X.w X.K X.mg X.base "_law_pick" ps__law_pick l__law_pick S__law_pick) (j__law_pick : Nat.ble l__law_pick k = true) {l__law_take : Nat} (c__law_take : DFn X.prog X.w X.K X.mg X.base "_law_take" ps__law_take l__law_take S__law_take) (j__law_take : Nat.ble l__law_take k = true) {l__law_text : Nat} (c__law_text : DFn X.prog X.w X.K X.mg X.base "_law_text" ps__law_text l__law_text S__law_text) (j__law_text : Nat.ble l__law_text k = true) : DSs X (defBody st__law_word) (t__law_word) :=
    (dss_cons (ds_asg rfl rfl tg_name (de_lst (da_cons pl_con de_str (da_cons pl_con de_str (da_cons pl_con de_str (da_cons pl_con de_str (da_cons pl_con de_str (da_cons pl_con de_str (da_cons pl_con de_str (da_cons pl_con de_str (da_cons pl_con de_str (da_cons pl_con de_str (da_cons pl_con de_str (da_cons pl_con de_str (da_cons pl_con de_str (da_cons pl_con de_str da_nil))))))))))))))) (h.tg (by decide +kernel)))
      (dss_cons (ds_asg rfl rfl tg_name (de_add (h.var (i := 1) (by decide +kernel)) (de_lst (da_cons pl_con de_str (da_cons pl_con de_str (da_cons pl_con de_str (da_cons pl_con de_str (da_cons pl_con de_str (da_cons pl_con de_str (da_cons pl_con de_str (da_cons pl_con de_str (da_cons pl_con de_str (da_cons pl_con de_str (da_cons pl_con de_str (da_cons pl_con de_str (da_cons pl_con de_str da_nil))))))))))))))) (h.tg (by decide +kernel)))
      (dss_cons (ds_asg rfl rfl tg_name (de_add (h.var (i := 1) (by decide +kernel)) (de_lst (da_cons pl_con de_str (da_cons pl_con de_str (da_cons pl_con de_str (da_cons pl_con de_str (da_cons pl_con de_str (da_cons pl_con de_str (da_cons pl_con de_str (da_cons pl_con de_str (da_cons pl_con de_str (da_cons pl_con de_str (da_cons pl_con de_str (da_cons pl_con de_str (da_cons pl_con de_str (da_cons pl_con de_str da_nil)))))))))))))))) (h.tg (by decide +kernel)))
      (dss_cons (ds_asg rfl rfl tg_name (de_add (h.var (i := 1) (by decide +kernel)) (de_lst (da_cons pl_con de_str (da_cons pl_con de_str (da_cons pl_con de_str (da_cons pl_con de_str (da_cons pl_con de_str (da_cons pl_con de_str (da_cons pl_con de_str (da_cons pl_con de_str (da_cons pl_con de_str (da_cons pl_con de_str (da_cons pl_con de_str (da_cons pl_con de_str (da_cons pl_con de_str da_nil))))))))))))))) (h.tg (by decide +kernel)))
      (dss_cons (ds_asg rfl rfl tg_name (de_add (h.var (i := 1) (by decide +kernel)) (de_lst (da_cons pl_con de_str (da_cons pl_con de_str da_nil)))) (h.tg (by decide +kernel)))
      (dss_cons (ds_if (h.tcmp .Eq pl_con (h.call c__law_take j__law_take (by decide +kernel) (pls_cons pl_name (pls_cons pl_con pls_nil)) (da_cons pl_name (h.var (i := 0) (by decide +kernel)) (da_cons pl_con de_int da_nil))) de_int) (dss_cons (ds_ret (h.call c__law_text j__law_text (by decide +kernel) (pls_cons pl_name (pls_cons pl_con pls_nil)) (da_cons pl_name (h.var (i := 0) (by decide +kernel)) (da_cons pl_con de_int da_nil))))
      dss_nil) dss_nil)
      (dss_cons (ds_ret (h.call c__law_pick j__law_pick (by decide +kernel) (pls_cons pl_name (pls_cons pl_name pls_nil)) (da_cons pl_name (h.var (i := 0) (by decide +kernel)) (da_cons pl_name (h.var (i := 1) (by decide +kernel)) da_nil))))
      dss_nil)))))))
/-! _law_plain -/
def N__law_plain : List Str := ["thing", "stack", "parts", "step", "item"]
abbrev st__law_plain : Stmt := top 19
abbrev ps__law_plain : List Str := ["thing"]
theorem sc__law_plain : FnScope N__law_plain ps__law_plain (defScope st__law_plain) := ⟨rfl, rfl, rfl, by decide +kernel, rfl, by decide +kernel, by decide +kernel⟩
def t__law_plain_0_3 : DTS := dSeq (dRet (dVar 2)) dNext
def t__law_plain_2_1 : DTS := dSeq (dAsg (dOp sAdd (dVar 1) (dCl (s1 kListOf) (dCons (dVar 4) dNil))) (gN 1)) dNext
def t__law_plain_2_0 : DTS := dSeq (dDrop (dBm "list" mApp (dVar 2) (dCons (dTup (dCons (dOp sIx (dC (.str [108, 116])) (dCl (s1 kInt) (dCons (dCl (s2 kIsi) (dCons (dVar 4) (dCons (dC (.ty "tuple")) dNil))) dNil))) (dCons (dCl (s1 kLenN) (dCons (dVar 4) dNil)) dNil))) dNil))) t__law_plain_2_1
def t__law_plain_4_0 : DTS := dSeq (dDrop (dBm "list" mApp (dVar 2) (dCons (dTup (dCons (dC (.str [98])) (dCons (dCl (s1 kRepr) (dCons (dVar 4) dNil)) dNil))) dNil))) dNext
def t__law_plain_6_0 : DTS := dSeq (dDrop (dBm "list" mApp (dVar 2) (dCons (dTup (dCons (dC (.str [105])) (dCons (dVar 4) dNil))) dNil))) dNext
def t__law_plain_8_0 : DTS := dSeq (dDrop (dBm "list" mApp (dVar 2) (dCons (dTup (dCons (dC (.str [115])) (dCons (dVar 4) dNil))) dNil))) dNext
def t__law_plain_9_0 : DTS := dSeq (dDrop (dBm "list" mApp (dVar 2) (dCons (dTup (dCons (dC (.str [63])) (dCons (dC (.int 0)) dNil))) dNil))) dNext
def t__law_plain_7_0 : DTS := dSeq (dIf (dTru (dCl (s2 kIsi) (dCons (dVar 4) (dCons (dC (.ty "str")) dNil)))) t__law_plain_8_0 t__law_plain_9_0) dNext
def t__law_plain_5_0 : DTS := dSeq (dIf (dTru (dCl (s2 kIsi) (dCons (dVar 4) (dCons (dC (.ty "int")) dNil)))) t__law_plain_6_0 t__law_plain_7_0) dNext
def t__law_plain_3_0 : DTS := dSeq (dIf (dOrT (dBl (dOp (sCmp .Is) (dVar 4) (dC .non))) (dTru (dCl (s2 kIsi) (dCons (dVar 4) (dCons (dC (.ty "bool")) dNil))))) t__law_plain_4_0 t__law_plain_5_0) dNext
def t__law_plain_1_2 : DTS := dSeq (dIf (dOrT (dTru (dCl (s2 kIsi) (dCons (dVar 4) (dCons (dC (.ty "list")) dNil)))) (dTru (dCl (s2 kIsi) (dCons (dVar 4) (dCons (dC (.ty "tuple")) dNil))))) t__law_plain_2_0 t__law_plain_3_0) dNext
def t__law_plain_1_1 : DTS := dSeq (dAsg (dBm "list" mPop (dVar 1) dNil) (gN 4)) t__law_plain_1_2
def t__law_plain_10_0 : DTS := dSeq dBrk dNext
def t__law_plain_1_0 : DTS := dSeq (dIf (dBl (dOp (sCmp .Eq) (dCl (s1 kLenN) (dCons (dVar 1) dNil)) (dC (.int 0)))) t__law_plain_10_0 dNext) t__law_plain_1_1
def t__law_plain_0_2 : DTS := dSeq (dFor (dRng1 (dC (.int 40000))) (gN 3) t__law_plain_1_0) t__law_plain_0_3
def t__law_plain_0_1 : DTS := dSeq (dAsg (dLst dNil) (gN 2)) t__law_plain_0_2
def t__law_plain_0_0 : DTS := dSeq (dAsg (dLst (dCons (dVar 0) dNil)) (gN 1)) t__law_plain_0_1
abbrev t__law_plain : DTS := t__law_plain_0_0
theorem se__law_plain (w0 : W) : startE N__law_plain [w0] = [some w0, none, none, none, none] := rfl
theorem w__law_plain {X : Cx} {k : Nat} (h : FX N__law_plain (defScope st__law_plain) none k X) (ho : PassesOwn (model X.prog X.w) X.A X.env X.xe) (m_range : X.mg "range" = none) (m_tuple : X.mg "tuple" = none) (m_isinstance : X.mg "isinstance" = none) (m_list : X.mg "list" = none) (m_len : X.mg "len" = none) (m_int : X.mg "int" = none) (m_bool : X.mg "bool" = none) (m_repr : X.mg "repr" = none) (m_str : X.mg "str" = none) : DSs X (defBody st__law_plain) (t__law_plain) :=
    (dss_cons (ds_asg rfl rfl tg_name (de_lst (da_cons pl_name (h.var (i := 0) (by decide +kernel)) da_nil)) (h.tg (by decide +kernel)))
      (dss_cons (ds_asg rfl rfl tg_name (de_lst da_nil) (h.tg (by decide +kernel)))
      (dss_cons (h.for_ ho pl_call (h.rng1 (by decide +kernel) m_range pl_con de_int) (h.tg (by decide +kernel)) (dss_cons (ds_if (h.tcmp .Eq pl_con (h.len (by decide +kernel) m_len (pls_cons pl_name pls_nil) (da_cons pl_name (h.var (i := 1) (by decide +kernel)) da_nil)) de_int) (dss_cons ds_brk
      dss_nil) dss_nil)
      (dss_cons (ds_asg rfl rfl tg_name (h.pop ab_name (by decide +kernel) (h.var (i := 1) (by decide +kernel))) (h.tg (by decide +kernel)))
      (dss_cons (ds_if (DW.dt (dw_or (dt_tru tr_call (h.isi (by decide +kernel) m_isinstance (pls_cons pl_name (pls_cons pl_name pls_nil)) (da_cons pl_name (h.var (i := 4) (by decide +kernel)) (da_cons pl_name (h.ty (by decide +kernel) m_list b_list) da_nil)))) (dw_or1 (dt_tru tr_call (h.isi (by decide +kernel) m_isinstance (pls_cons pl_name (pls_cons pl_name pls_nil)) (da_cons pl_name (h.var (i := 4) (by decide +kernel)) (da_cons pl_name (h.ty (by decide +kernel) m_tuple b_tuple) da_nil))))))) (dss_cons (ds_expr rfl (h.app ab_name (by decide +kernel) (pls_cons pl_tup pls_nil) (h.var (i := 2) (by decide +kernel)) (da_cons pl_tup (de_tup (da_cons pl_sub (de_ix pl_call de_str (h.int (by decide +kernel) m_int (pls_cons pl_call pls_nil) (da_cons pl_call (h.isi (by decide +kernel) m_isinstance (pls_cons pl_name (pls_cons pl_name pls_nil)) (da_cons pl_name (h.var (i := 4) (by decide +kernel)) (da_cons pl_name (h.ty (by decide +kernel) m_tuple b_tuple) da_nil))) da_nil))) (da_cons pl_call (h.len (by decide +kernel) m_len (pls_cons pl_name pls_nil) (da_cons pl_name (h.var (i := 4) (by decide +kernel)) da_nil)) da_nil))) da_nil)))
      (dss_cons (ds_asg rfl rfl tg_name (de_add (h.var (i := 1) (by decide +kernel)) (h.list (by decide +kernel) m_list (pls_cons pl_name pls_nil) (da_cons pl_name (h.var (i := 4) (by decide +kernel)) da_nil))) (h.tg (by decide +kernel)))
      dss_nil)) (dss_cons (ds_if (DW.dt (dw_or (h.tcmp .Is pl_con (h.var (i := 4) (by decide +kernel)) de_non) (dw_or1 (dt_tru tr_call (h.isi (by decide +kernel) m_isinstance (pls_cons pl_name (pls_cons pl_name pls_nil)) (da_cons pl_name (h.var (i := 4) (by decide +kernel)) (da_cons pl_name (h.ty (by decide +kernel) m_bool b_bool) da_nil))))))) (dss_cons (ds_expr rfl (h.app ab_name (by decide +kernel) (pls_cons pl_tup pls_nil) (h.var (i := 2) (by decide +kernel)) (da_cons pl_tup (de_tup (da_cons pl_con de_str (da_cons pl_call (h.repr (by decide +kernel) m_repr (pls_cons pl_name pls_nil) (da_cons pl_name (h.var (i := 4) (by decide +kernel)) da_nil)) da_nil))) da_nil)))
      dss_nil) (dss_cons (ds_if (dt_tru tr_call (h.isi (by decide +kernel) m_isinstance (pls_cons pl_name (pls_cons pl_name pls_nil)) (da_cons pl_name (h.var (i := 4) (by decide +kernel)) (da_cons pl_name (h.ty (by decide +kernel) m_int b_int) da_nil)))) (dss_cons (ds_expr rfl (h.app ab_name (by decide +kernel) (pls_cons pl_tup pls_nil) (h.var (i := 2) (by decide +kernel)) (da_cons pl_tup (de_tup (da_cons pl_con de_str (da_cons pl_name (h.var (i := 4) (by decide +kernel)) da_nil))) da_nil)))
      dss_nil) (dss_cons (ds_if (dt_tru tr_call (h.isi (by decide +kernel) m_isinstance (pls_cons pl_name (pls_cons pl_name pls_nil)) (da_cons pl_name (h.var (i := 4) (by decide +kernel)) (da_cons pl_name (h.ty (by decide +kernel) m_str b_str) da_nil)))) (dss_cons (ds_expr rfl (h.app ab_name (by decide +kernel) (pls_cons pl_tup pls_nil) (h.var (i := 2) (by decide +kernel)) (da_cons pl_tup (de_tup (da_cons pl_con de_str (da_cons pl_name (h.var (i := 4) (by decide +kernel)) da_nil))) da_nil)))
      dss_nil) (dss_cons (ds_expr rfl (h.app ab_name (by decide +kernel) (pls_cons pl_tup pls_nil) (h.var (i := 2) (by decide +kernel)) (da_cons pl_tup (de_tup (da_cons pl_con de_str (da_cons pl_con de_int da_nil))) da_nil)))
      dss_nil))
      dss_nil))
      dss_nil))
      dss_nil))
      dss_nil))))
      (dss_cons (ds_ret (h.var (i := 2) (by decide +kernel)))
      dss_nil))))
/-! _law_alike -/
def N__law_alike : List Str := ["one", "two"]
abbrev st__law_alike : Stmt := top 20
abbrev ps__law_alike : List Str := ["one", "two"]
theorem sc__law_alike : FnScope N__law_alike ps__law_alike (defScope st__law_alike) := ⟨rfl, rfl, rfl, by decide +kernel, rfl, by decide +kernel, by decide +kernel⟩
def t__law_alike_0_0 : DTS := dSeq (dRet (dOp (sCmp .Eq) (dCall 1 S__law_plain (dCons (dVar 0) dNil)) (dCall 1 S__law_plain (dCons (dVar 1) dNil)))) dNext
abbrev t__law_alike : DTS := t__law_alike_0_0
theorem se__law_alike (w0 w1 : W) : startE N__law_alike [w0, w1] = [some w0, some w1] := rfl
theorem w__law_alike {X : Cx} {k : Nat} (h : FX N__law_alike (defScope st__law_alike) none k X) (ho : PassesOwn (model X.prog X.w) X.A X.env X.xe) {l__law_plain : Nat} (c__law_plain : DFn X.prog X.w X.K X.mg X.base "_law_plain" ps__law_plain l__law_plain S__law_plain) (j__law_plain : Nat.ble l__law_plain k = true) : DSs X (defBody st__law_alike) (t__law_alike) :=
    (dss_cons (ds_ret (h.cmp .Eq pl_call (h.call c__law_plain j__law_plain (by decide +kernel) (pls_cons pl_name pls_nil) (da_cons pl_name (h.var (i := 0) (by decide +kernel)) da_nil)) (h.call c__law_plain j__law_plain (by decide +kernel) (pls_cons pl_name pls_nil) (da_cons pl_name (h.var (i := 1) (by decide +kernel)) da_nil))))
      dss_nil)
/-! _law_number -/
def N__law_number : List Str := ["word", "total", "sign"]
abbrev st__law_number : Stmt := top 21
abbrev ps__law_number : List Str := ["word"]
theorem sc__law_number : FnScope N__law_number ps__law_number (defScope st__law_number) := ⟨rfl, rfl, rfl, by decide +kernel, rfl, by decide +kernel, by decide +kernel⟩
def t__law_number_0_3 : DTS := dSeq (dRet (dLst (dCons (dVar 1) dNil))) dNext
def t__law_number_1_1 : DTS := dSeq (dAsg (dOp sAdd (dOp sMul (dC (.int 10)) (dVar 1)) (dBm "str" mIndex (dC (.str [48, 49, 50, 51, 52, 53, 54, 55, 56, 57])) (dCons (dVar 2) dNil))) (gN 1)) dNext
def t__law_number_2_0 : DTS := dSeq (dRet (dLst dNil)) dNext
def t__law_number_1_0 : DTS := dSeq (dIf (dBl (dOp (sCmp .NotIn) (dVar 2) (dC (.str [48, 49, 50, 51, 52, 53, 54, 55, 56, 57])))) t__law_number_2_0 dNext) t__law_number_1_1
def t__law_number_0_2 : DTS := dSeq (dFor (dRow (dVar 0)) (gN 2) t__law_number_1_0) t__law_number_0_3
def t__law_number_0_1 : DTS := dSeq (dAsg (dC (.int 0)) (gN 1)) t__law_number_0_2
def t__law_number_3_0 : DTS := dSeq (dRet (dLst dNil)) dNext
def t__law_number_0_0 : DTS := dSeq (dIf (dOrT (dBl (dOp (sCmp .Lt) (dCl (s1 kLenN) (dCons (dVar 0) dNil)) (dC (.int 1)))) (dOrT (dBl (dOp (sCmp .Gt) (dCl (s1 kLenN) (dCons (dVar 0) dNil)) (dC (.int 9)))) (dAndT (dBl (dOp (sCmp .Gt) (dCl (s1 kLenN) (dCons (dVar 0) dNil)) (dC (.int 1)))) (dBl (dOp (sCmp .Eq) (dOp sIx (dVar 0) (dC (.int 0))) (dC (.str [48]))))))) t__law_number_3_0 dNext) t__law_number_0_1
abbrev t__law_number : DTS := t__law_number_0_0
theorem se__law_number (w0 : W) : startE N__law_number [w0] = [some w0, none, none] := rfl
theorem w__law_number {X : Cx} {k : Nat} (h : FX N__law_number (defScope st__law_number) none k X) (ho : PassesOwn (model X.prog X.w) X.A X.env X.xe) (m_len : X.mg "len" = none) : DSs X (defBody st__law_number) (t__law_number) :=
    (dss_cons (ds_if (DW.dt (dw_or (h.tcmp .Lt pl_con (h.len (by decide +kernel) m_len (pls_cons pl_name pls_nil) (da_cons pl_name (h.var (i := 0) (by decide +kernel)) da_nil)) de_int) (dw_or (h.tcmp .Gt pl_con (h.len (by decide +kernel) m_len (pls_cons pl_name pls_nil) (da_cons pl_name (h.var (i := 0) (by decide +kernel)) da_nil)) de_int) (dw_or1 (DW.dt (dw_and (h.tcmp .Gt pl_con (h.len (by decide +kernel) m_len (pls_cons pl_name pls_nil) (da_cons pl_name (h.var (i := 0) (by decide +kernel)) da_nil)) de_int) (dw_and1 (h.tcmp .Eq pl_con (de_ix pl_con (h.var (i := 0) (by decide +kernel)) de_int) de_str)))))))) (dss_cons (ds_ret (de_lst da_nil))
      dss_nil) dss_nil)
      (dss_cons (ds_asg rfl rfl tg_name de_int (h.tg (by decide +kernel)))
      (dss_cons (h.for_ ho pl_name (di_row (h.var (i := 0) (by decide +kernel))) (h.tg (by decide +kernel)) (dss_cons (ds_if (h.tcmp .NotIn pl_con (h.var (i := 2) (by decide +kernel)) de_str) (dss_cons (ds_ret (de_lst da_nil))
      dss_nil) dss_nil)
      (dss_cons (ds_asg rfl rfl tg_name (de_add (de_mul de_int (h.var (i := 1) (by decide +kernel))) (h.index ab_con (by decide +kernel) (pls_cons pl_name pls_nil) de_str (da_cons pl_name (h.var (i := 2) (by decide +kernel)) da_nil))) (h.tg (by decide +kernel)))
      dss_nil)))
      (dss_cons (ds_ret (de_lst (da_cons pl_name (h.var (i := 1) (by decide +kernel)) da_nil)))
      dss_nil))))
/-! _law_cut -/
def N__law_cut : List Str := ["word", "side", "number"]
abbrev st__law_cut : Stmt := top 22
abbrev ps__law_cut : List Str := ["word"]
theorem sc__law_cut : FnScope N__law_cut ps__law_cut (defScope st__law_cut) := ⟨rfl, rfl, rfl, by decide +kernel, rfl, by decide +kernel, by decide +kernel⟩
def t__law_cut_0_3 : DTS := dSeq (dRet (dComp [2] (dRow (dCall 1 S__law_number (dCons (dSl (dVar 0) (dSo (dC (.int 1))) dNo) dNil))) (gN 2) dYes (dTup (dCons (dVar 1) (dCons (dVar 2) dNil))))) dNext
def t__law_cut_1_0 : DTS := dSeq (dAsg (dC (.str [99, 111, 108, 117, 109, 110])) (gN 1)) dNext
def t__law_cut_0_2 : DTS := dSeq (dIf (dBl (dOp (sCmp .Eq) (dOp sIx (dVar 0) (dC (.int 0))) (dC (.str [99])))) t__law_cut_1_0 dNext) t__law_cut_0_3
def t__law_cut_0_1 : DTS := dSeq (dAsg (dC (.str [114, 111, 119])) (gN 1)) t__law_cut_0_2
def t__law_cut_2_0 : DTS := dSeq (dRet (dLst dNil)) dNext
def t__law_cut_0_0 : DTS := dSeq (dIf (dAndT (dBl (dOp (sCmp .NotEq) (dSl (dVar 0) dNo (dSo (dC (.int 1)))) (dC (.str [114])))) (dBl (dOp (sCmp .NotEq) (dSl (dVar 0) dNo (dSo (dC (.int 1)))) (dC (.str [99]))))) t__law_cut_2_0 dNext) t__law_cut_0_1
abbrev t__law_cut : DTS := t__law_cut_0_0
theorem se__law_cut (w0 : W) : startE N__law_cut [w0] = [some w0, none, none] := rfl
theorem w__law_cut {X : Cx} {k : Nat} (h : FX N__law_cut (defScope st__law_cut) none k X) (ho : PassesOwn (model X.prog X.w) X.A X.env X.xe) {l__law_number : Nat} (c__law_number : DFn X.prog X.w X.K X.mg X.base "_law_number" ps__law_number l__law_number S__law_number) (j__law_number : Nat.ble l__law_number k = true) : DSs X (defBody st__law_cut) (t__law_cut) :=
    (dss_cons (ds_if (DW.dt (dw_and (h.tcmp .NotEq pl_con (de_sl (h.var (i := 0) (by decide +kernel)) do_no (do_so de_int)) de_str) (dw_and1 (h.tcmp .NotEq pl_con (de_sl (h.var (i := 0) (by decide +kernel)) do_no (do_so de_int)) de_str)))) (dss_cons (ds_ret (de_lst da_nil))
      dss_nil) dss_nil)
      (dss_cons (ds_asg rfl rfl tg_name de_str (h.tg (by decide +kernel)))
      (dss_cons (ds_if (h.tcmp .Eq pl_con (de_ix pl_con (h.var (i := 0) (by decide +kernel)) de_int) de_str) (dss_cons (ds_asg rfl rfl tg_name de_str (h.tg (by decide +kernel)))
      dss_nil) dss_nil)
      (dss_cons (ds_ret (h.comp (own := [("number", 2)]) (sl := [2]) (by decide +kernel) (by decide +kernel) pl_call (di_row (h.call c__law_number j__law_number (by decide +kernel) (pls_cons pl_sub pls_nil) (da_cons pl_sub (de_sl (h.var (i := 0) (by decide +kernel)) (do_so de_int) do_no) da_nil))) (fun _ h1 e0_1 e0_2 e0_3 e0_4 e0_5 => ⟨(h1.tg (by decide +kernel)), dts_nil, (de_tup (da_cons pl_name (h1.var (i := 1) (by decide +kernel)) (da_cons pl_name (h1.var (i := 2) (by decide +kernel)) da_nil)))⟩)))
      dss_nil))))
/-! _law_spot -/
def N__law_spot : List Str := ["word", "number"]
abbrev st__law_spot : Stmt := top 23
abbrev ps__law_spot : List Str := ["word"]
theorem sc__law_spot : FnScope N__law_spot ps__law_spot (defScope st__law_spot) := ⟨rfl, rfl, rfl, by decide +kernel, rfl, by decide +kernel, by decide +kernel⟩
def t__law_spot_0_1 : DTS := dSeq (dRet (dComp [1] (dRow (dCall 1 S__law_number (dCons (dVar 0) dNil))) (gN 1) (dBl (dOp (sCmp .Lt) (dVar 1) (dC (.int 10)))) (dVar 1))) dNext
def t__law_spot_1_0 : DTS := dSeq (dRet (dLst (dCons (dC .non) dNil))) dNext
def t__law_spot_0_0 : DTS := dSeq (dIf (dBl (dOp (sCmp .Eq) (dVar 0) (dC (.str [45])))) t__law_spot_1_0 dNext) t__law_spot_0_1
abbrev t__law_spot : DTS := t__law_spot_0_0
theorem se__law_spot (w0 : W) : startE N__law_spot [w0] = [some w0, none] := rfl
theorem w__law_spot {X : Cx} {k : Nat} (h : FX N__law_spot (defScope st__law_spot) none k X) (ho : PassesOwn (model X.prog X.w) X.A X.env X.xe) {l__law_number : Nat} (c__law_number : DFn X.prog X.w X.K X.mg X.base "_law_number" ps__law_number l__law_number S__law_number) (j__law_number : Nat.ble l__law_number k = true) : DSs X (defBody st__law_spot) (t__law_spot) :=
    (dss_cons (ds_if (h.tcmp .Eq pl_con (h.var (i := 0) (by decide +kernel)) de_str) (dss_cons (ds_ret (de_lst (da_cons pl_con de_non da_nil)))
      dss_nil) dss_nil)
      (dss_cons (ds_ret (h.comp (own := [("number", 1)]) (sl := [1]) (by decide +kernel) (by decide +kernel) pl_call (di_row (h.call c__law_number j__law_number (by decide +kernel) (pls_cons pl_name pls_nil) (da_cons pl_name (h.var (i := 0) (by decide +kernel)) da_nil))) (fun _ h1 e0_1 e0_2 e0_3 e0_4 e0_5 => ⟨(h1.tg (by decide +kernel)), (dts_one (h1.tcmp .Lt pl_con (h1.var (i := 1) (by decide +kernel)) de_int)), (h1.var (i := 1) (by decide +kernel))⟩)))
      dss_nil))
/-! _law_named -/
def N__law_named : List Str := ["word", "sign"]
abbrev st__law_named : Stmt := top 24
abbrev ps__law_named : List Str := ["word"]
theorem sc__law_named : FnScope N__law_named ps__law_named (defScope st__law_named) := ⟨rfl, rfl, rfl, by decide +kernel, rfl, by decide +kernel, by decide +kernel⟩
def t__law_named_0_1 : DTS := dSeq (dRet (dAnd (dOp (sCmp .Gt) (dCl (s1 kLenN) (dCons (dVar 0) dNil)) (dC (.int 0))) (dOp (sCmp .Lt) (dCl (s1 kLenN) (dCons (dVar 0) dNil)) (dC (.int 9))))) dNext
def t__law_named_2_0 : DTS := dSeq (dRet (dC (.bl false))) dNext
def t__law_named_1_0 : DTS := dSeq (dIf (dBl (dOp (sCmp .NotIn) (dVar 1) (dC (.str [97, 98, 99, 100, 101, 102, 103, 104, 105, 106, 107, 108, 109, 110, 111, 112, 113, 114, 115, 116, 117, 118, 119, 120, 121, 122])))) t__law_named_2_0 dNext) dNext
def t__law_named_0_0 : DTS := dSeq (dFor (dRow (dVar 0)) (gN 1) t__law_named_1_0) t__law_named_0_1
abbrev t__law_named : DTS := t__law_named_0_0
theorem se__law_named (w0 : W) : startE N__law_named [w0] = [some w0, none] := rfl
theorem w__law_named {X : Cx} {k : Nat} (h : FX N__law_named (defScope st__law_named) none k X) (ho : PassesOwn (model X.prog X.w) X.A X.env X.xe) (m_len : X.mg "len" = none) : DSs X (defBody st__law_named) (t__law_named) :=
    (dss_cons (h.for_ ho pl_name (di_row (h.var (i := 0) (by decide +kernel))) (h.tg (by decide +kernel)) (dss_cons (ds_if (h.tcmp .NotIn pl_con (h.var (i := 1) (by decide +kernel)) de_str) (dss_cons (ds_ret de_bl)
      dss_nil) dss_nil)
      dss_nil))
      (dss_cons (ds_ret (de_and (h.cmp .Gt pl_con (h.len (by decide +kernel) m_len (pls_cons pl_name pls_nil) (da_cons pl_name (h.var (i := 0) (by decide +kernel)) da_nil)) de_int) (de_one (h.cmp .Lt pl_con (h.len (by decide +kernel) m_len (pls_cons pl_name pls_nil) (da_cons pl_name (h.var (i := 0) (by decide +kernel)) da_nil)) de_int))))
      dss_nil))
/-! _law_first -/
def N__law_first : List Str := ["items", "item"]
abbrev st__law_first : Stmt := top 25
abbrev ps__law_first : List Str := ["items"]
theorem sc__law_first : FnScope N__law_first ps__law_first (defScope st__law_first) := ⟨rfl, rfl, rfl, by decide +kernel, rfl, by decide +kernel, by decide +kernel⟩
def t__law_first_0_1 : DTS := dSeq (dRet (dC .non)) dNext
def t__law_first_1_0 : DTS := dSeq (dRet (dVar 1)) dNext
def t__law_first_0_0 : DTS := dSeq (dFor (dRow (dVar 0)) (gN 1) t__law_first_1_0) t__law_first_0_1
abbrev t__law_first : DTS := t__law_first_0_0
theorem se__law_first (w0 : W) : startE N__law_first [w0] = [some w0, none] := rfl
theorem w__law_first {X : Cx} {k : Nat} (h : FX N__law_first (defScope st__law_first) none k X) (ho : PassesOwn (model X.prog X.w) X.A X.env X.xe) : DSs X (defBody st__law_first) (t__law_first) :=
    (dss_cons (h.for_ ho pl_name (di_row (h.var (i := 0) (by decide +kernel))) (h.tg (by decide +kernel)) (dss_cons (ds_ret (h.var (i := 1) (by decide +kernel)))
      dss_nil))
      (dss_cons (ds_ret de_non)
      dss_nil))
/-! _law_spots -/
def N__law_spots : List Str := ["words", "found", "word", "spot"]
abbrev st__law_spots : Stmt := top 26
abbrev ps__law_spots : List Str := ["words"]
theorem sc__law_spots : FnScope N__law_spots ps__law_spots (defScope st__law_spots) := ⟨rfl, rfl, rfl, by decide +kernel, rfl, by decide +kernel, by decide +kernel⟩
def t__law_spots_0_2 : DTS := dSeq (dRet (dVar 1)) dNext
def t__law_spots_1_2 : DTS := dSeq (dDrop (dBm "list" mApp (dVar 1) (dCons (dOp sIx (dVar 3) (dC (.int 0))) dNil))) dNext
def t__law_spots_2_0 : DTS := dSeq (dRet (dC .non)) dNext
def t__law_spots_1_1 : DTS := dSeq (dIf (dBl (dOp (sCmp .Eq) (dVar 3) (dLst dNil))) t__law_spots_2_0 dNext) t__law_spots_1_2
def t__law_spots_1_0 : DTS := dSeq (dAsg (dCall 1 S__law_spot (dCons (dVar 2) dNil)) (gN 3)) t__law_spots_1_1
def t__law_spots_0_1 : DTS := dSeq (dFor (dRow (dVar 0)) (gN 2) t__law_spots_1_0) t__law_spots_0_2
def t__law_spots_0_0 : DTS := dSeq (dAsg (dLst dNil) (gN 1)) t__law_spots_0_1
abbrev t__law_spots : DTS := t__law_spots_0_0
theorem se__law_spots (w0 : W) : startE N__law_spots [w0] = [some w0, none, none, none] := rfl
theorem w__law_spots {X : Cx} {k : Nat} (h : FX N__law_spots (defScope st__law_spots) none k X) (ho : PassesOwn (model X.prog X.w) X.A X.env X.xe) {l__law_spot : Nat} (c__law_spot : DFn X.prog X.w X.K X.mg X.base "_law_spot" ps__law_spot l__law_spot S__law_spot) (j__law_spot : Nat.ble l__law_spot k = true) : DSs X (defBody st__law_spots) (t__law_spots) :=
    (dss_cons (ds_asg rfl rfl tg_name (de_lst da_nil) (h.tg (by decide +kernel)))
      (dss_cons (h.for_ ho pl_name (di_row (h.var (i := 0) (by decide +kernel))) (h.tg (by decide +kernel)) (dss_cons (ds_asg rfl rfl tg_name (h.call c__law_spot j__law_spot (by decide +kernel) (pls_cons pl_name pls_nil) (da_cons pl_name (h.var (i := 2) (by decide +kernel)) da_nil)) (h.tg (by decide +kernel)))
      (dss_cons (ds_if (h.tcmp .Eq pl_lst (h.var (i := 3) (by decide +kernel)) (de_lst da_nil)) (dss_cons (ds_ret de_non)
      dss_nil) dss_nil)
      (dss_cons (ds_expr rfl (h.app ab_name (by decide +kernel) (pls_cons pl_sub pls_nil) (h.var (i := 1) (by decide +kernel)) (da_cons pl_sub (de_ix pl_con (h.var (i := 3) (by decide +kernel)) de_int) da_nil)))
      dss_nil))))
      (dss_cons (ds_ret (h.var (i := 1) (by decide +kernel)))
      dss_nil)))
/-! _law_parted -/
def N__law_parted : List Str := ["line", "words", "sign"]
abbrev st__law_parted : Stmt := top 27
abbrev ps__law_parted : List Str := ["line"]
theorem sc__law_parted : FnScope N__law_parted ps__law_parted (defScope st__law_parted) := ⟨rfl, rfl, rfl, by decide +kernel, rfl, by decide +kernel, by decide +kernel⟩
def t__law_parted_0_3 : DTS := dSeq (dRet (dVar 1)) dNext
def t__law_parted_1_0 : DTS := dSeq (dRet (dLst dNil)) dNext
def t__law_parted_0_2 : DTS := dSeq (dIf (dBl (dOp (sCmp .Eq) (dVar 0) (dC (.str [])))) t__law_parted_1_0 dNext) t__law_parted_0_3
def t__law_parted_3_0 : DTS := dSeq (dDrop (dBm "list" mApp (dVar 1) (dCons (dC (.str [])) dNil))) dNext
def t__law_parted_4_0 : DTS := dSeq (dAsg (dOp sAdd (dOp sIx (dVar 1) (dOp (sInt (fun _ _ => True) fun i j => i - j) (dCl (s1 kLenN) (dCons (dVar 1) dNil)) (dC (.int 1)))) (dVar 2)) (gSub (dVar 1) (dOp (sInt (fun _ _ => True) fun i j => i - j) (dCl (s1 kLenN) (dCons (dVar 1) dNil)) (dC (.int 1))))) dNext
def t__law_parted_2_0 : DTS := dSeq (dIf (dBl (dOp (sCmp .Eq) (dVar 2) (dC (.str [32])))) t__law_parted_3_0 t__law_parted_4_0) dNext
def t__law_parted_0_1 : DTS := dSeq (dFor (dRow (dVar 0)) (gN 2) t__law_parted_2_0) t__law_parted_0_2
def t__law_parted_0_0 : DTS := dSeq (dAsg (dLst (dCons (dC (.str [])) dNil)) (gN 1)) t__law_parted_0_1
abbrev t__law_parted : DTS := t__law_parted_0_0
theorem se__law_parted (w0 : W) : startE N__law_parted [w0] = [some w0, none, none] := rfl
theorem w__law_parted {X : Cx} {k : Nat} (h : FX N__law_parted (defScope st__law_parted) none k X) (ho : PassesOwn (model X.prog X.w) X.A X.env X.xe) (m_len : X.mg "len" = none) : DSs X (defBody st__law_parted) (t__law_parted) :=
    (dss_cons (ds_asg rfl rfl tg_name (de_lst (da_cons pl_con de_str da_nil)) (h.tg (by decide +kernel)))
      (dss_cons (h.for_ ho pl_name (di_row (h.var (i := 0) (by decide +kernel))) (h.tg (by decide +kernel)) (dss_cons (ds_if (h.tcmp .Eq pl_con (h.var (i := 2) (by decide +kernel)) de_str) (dss_cons (ds_expr rfl (h.app ab_name (by decide +kernel) (pls_cons pl_con pls_nil) (h.var (i := 1) (by decide +kernel)) (da_cons pl_con de_str da_nil)))
      dss_nil) (dss_cons (ds_asg rfl rfl tg_sub (de_add (de_ix pl_bin (h.var (i := 1) (by decide +kernel)) (de_sub (h.len (by decide +kernel) m_len (pls_cons pl_name pls_nil) (da_cons pl_name (h.var (i := 1) (by decide +kernel)) da_nil)) de_int)) (h.var (i := 2) (by decide +kernel))) (dg_sub (h.var (i := 1) (by decide +kernel)) (de_sub (h.len (by decide +kernel) m_len (pls_cons pl_name pls_nil) (da_cons pl_name (h.var (i := 1) (by decide +kernel)) da_nil)) de_int) fun _ => rfl))
      dss_nil))
      dss_nil))
      (dss_cons (ds_if (h.tcmp .Eq pl_con (h.var (i := 0) (by decide +kernel)) de_str) (dss_cons (ds_ret (de_lst da_nil))
      dss_nil) dss_nil)
      (dss_cons (ds_ret (h.var (i := 1) (by decide +kernel)))
      dss_nil))))
/-! _law_digits -/
def N__law_digits : List Str := ["store", "word", "choice", "place", "k"]
abbrev st__law_digits : Stmt := top 28
abbrev ps__law_digits : List Str := ["store"]
theorem sc__law_digits : FnScope N__law_digits ps__law_digits (defScope st__law_digits) := ⟨rfl, rfl, rfl, by decide +kernel, rfl, by decide +kernel, by decide +kernel⟩
def t__law_digits_0_7 : DTS := dSeq (dRet (dVar 1)) dNext
def t__law_digits_1_0 : DTS := dSeq (dRet (dOp sAdd (dC (.str [49])) (dSl (dVar 1) (dSo (dC (.int 1))) (dSo (dC (.int 9)))))) dNext
def t__law_digits_0_6 : DTS := dSeq (dIf (dBl (dOp (sCmp .Eq) (dVar 2) (dC (.int 3)))) t__law_digits_1_0 dNext) t__law_digits_0_7
def t__law_digits_2_0 : DTS := dSeq (dRet (dOp sMul (dC (.str [57])) (dCall 3 S__law_between (dCons (dVar 0) (dCons (dC (.int 1)) (dCons (dC (.int 10)) dNil)))))) dNext
def t__law_digits_0_5 : DTS := dSeq (dIf (dBl (dOp (sCmp .Eq) (dVar 2) (dC (.int 2)))) t__law_digits_2_0 dNext) t__law_digits_0_6
def t__law_digits_3_0 : DTS := dSeq (dRet (dOp sAdd (dOp sAdd (dSl (dVar 1) dNo (dSo (dVar 3))) (dCall 1 S__law_char (dCons (dVar 0) dNil))) (dSl (dVar 1) (dSo (dOp sAdd (dVar 3) (dC (.int 1)))) dNo))) dNext
def t__law_digits_0_4 : DTS := dSeq (dIf (dBl (dOp (sCmp .Eq) (dVar 2) (dC (.int 1)))) t__law_digits_3_0 dNext) t__law_digits_0_5
def t__law_digits_4_0 : DTS := dSeq (dRet (dOp sAdd (dC (.str [48])) (dSl (dVar 1) (dSo (dC (.int 1))) dNo))) dNext
def t__law_digits_0_3 : DTS := dSeq (dIf (dBl (dOp (sCmp .Eq) (dVar 2) (dC (.int 0)))) t__law_digits_4_0 dNext) t__law_digits_0_4
def t__law_digits_0_2 : DTS := dSeq (dAsg (dCall 2 S__law_take (dCons (dVar 0) (dCons (dCl (s1 kLenN) (dCons (dVar 1) dNil)) dNil))) (gN 3)) t__law_digits_0_3
def t__law_digits_0_1 : DTS := dSeq (dAsg (dCall 2 S__law_take (dCons (dVar 0) (dCons (dC (.int 8)) dNil))) (gN 2)) t__law_digits_0_2
def t__law_digits_0_0 : DTS := dSeq (dAsg (dBm "str" mJoin (dC (.str [])) (dCons (dComp [4] (dRng1 (dCall 3 S__law_between (dCons (dVar 0) (dCons (dC (.int 1)) (dCons (dC (.int 11)) dNil))))) (gN 4) dYes (dOp sIx (dC (.str [48, 49, 50, 51, 52, 53, 54, 55, 56, 57])) (dCall 2 S__law_take (dCons (dVar 0) (dCons (dC (.int 10)) dNil))))) dNil)) (gN 1)) t__law_digits_0_1
abbrev t__law_digits : DTS := t__law_digits_0_0
theorem se__law_digits (w0 : W) : startE N__law_digits [w0] = [some w0, none, none, none, none] := rfl
theorem w__law_digits {X : Cx} {k : Nat} (h : FX N__law_digits (defScope st__law_digits) none k X) (ho : PassesOwn (model X.prog X.w) X.A X.env X.xe) {l__law_between : Nat} (c__law_between : DFn X.prog X.w X.K X.mg X.base "_law_between" ps__law_between l__law_between S__law_between) (j__law_between : Nat.ble l__law_between k = true) {l__law_char : Nat} (c__law_char : DFn X.prog X.w X.K X.mg X.base "_law_char" ps__law_char l__law_char S__law_char) (j__law_char : Nat.ble l__law_char k = true) {l__law_take : Nat} (c__law_take : DFn X.prog X.w X.K X.mg X.base "_law_take" ps__law_take l__law_take S__law_take) (j__law_take : Nat.ble l__law_take k = true) (m_len : X.mg "len" = none) (m_range : X.mg "range" = none) : DSs X (defBody st__law_digits) (t__law_digits) :=
    (dss_cons (ds_asg rfl rfl tg_name (h.join ab_con (by decide +kernel) (pls_cons pl_lc pls_nil) de_str (da_cons pl_lc (h.comp (own := [("k", 4)]) (sl := [4]) (by decide +kernel) (by decide +kernel) pl_call (h.rng1 (by decide +kernel) m_range pl_call (h.call c__law_between j__law_between (by decide +kernel) (pls_cons pl_name (pls_cons pl_con (pls_cons pl_con pls_nil))) (da_cons pl_name (h.var (i := 0) (by decide +kernel)) (da_cons pl_con de_int (da_cons pl_con de_int da_nil))))) (fun _ h1 e0_1 e0_2 e0_3 e0_4 e0_5 => ⟨(h1.tg (by decide +kernel)), dts_nil, (de_ix pl_call de_str (h1.call (c__law_take.on e0_1 e0_2 e0_3 e0_4 e0_5) j__law_take (by decide +kernel) (pls_cons pl_name (pls_cons pl_con pls_nil)) (da_cons pl_name (h1.var (i := 0) (by decide +kernel)) (da_cons pl_con de_int da_nil))))⟩)) da_nil)) (h.tg (by decide +kernel)))
      (dss_cons (ds_asg rfl rfl tg_name (h.call c__law_take j__law_take (by decide +kernel) (pls_cons pl_name (pls_cons pl_con pls_nil)) (da_cons pl_name (h.var (i := 0) (by decide +kernel)) (da_cons pl_con de_int da_nil))) (h.tg (by decide +kernel)))
      (dss_cons (ds_asg rfl rfl tg_name (h.call c__law_take j__law_take (by decide +kernel) (pls_cons pl_name (pls_cons pl_call pls_nil)) (da_cons pl_name (h.var (i := 0) (by decide +kernel)) (da_cons pl_call (h.len (by decide +kernel) m_len (pls_cons pl_name pls_nil) (da_cons pl_name (h.var (i := 1) (by decide +kernel)) da_nil)) da_nil))) (h.tg (by decide +kernel)))
      (dss_cons (ds_if (h.tcmp .Eq pl_con (h.var (i := 2) (by decide +kernel)) de_int) (dss_cons (ds_ret (de_add de_str (de_sl (h.var (i := 1) (by decide +kernel)) (do_so de_int) do_no)))
      dss_nil) dss_nil)
      (dss_cons (ds_if (h.tcmp .Eq pl_con (h.var (i := 2) (by decide +kernel)) de_int) (dss_cons (ds_ret (de_add (de_add (de_sl (h.var (i := 1) (by decide +kernel)) do_no (do_so (h.var (i := 3) (by decide +kernel)))) (h.call c__law_char j__law_char (by decide +kernel) (pls_cons pl_name pls_nil) (da_cons pl_name (h.var (i := 0) (by decide +kernel)) da_nil))) (de_sl (h.var (i := 1) (by decide +kernel)) (do_so (de_add (h.var (i := 3) (by decide +kernel)) de_int)) do_no)))
      dss_nil) dss_nil)
      (dss_cons (ds_if (h.tcmp .Eq pl_con (h.var (i := 2) (by decide +kernel)) de_int) (dss_cons (ds_ret (de_mul de_str (h.call c__law_between j__law_between (by decide +kernel) (pls_cons pl_name (pls_cons pl_con (pls_cons pl_con pls_nil))) (da_cons pl_name (h.var (i := 0) (by decide +kernel)) (da_cons pl_con de_int (da_cons pl_con de_int da_nil))))))
      dss_nil) dss_nil)
      (dss_cons (ds_if (h.tcmp .Eq pl_con (h.var (i := 2) (by decide +kernel)) de_int) (dss_cons (ds_ret (de_add de_str (de_sl (h.var (i := 1) (by decide +kernel)) (do_so de_int) (do_so de_int))))
      dss_nil) dss_nil)
      (dss_cons (ds_ret (h.var (i := 1) (by decide +kernel)))
      dss_nil))))))))
/-! _law_near -/
def N__law_near : List Str := ["store", "choice", "name", "place"]
abbrev st__law_near : Stmt := top 29
abbrev ps__law_near : List Str := ["store"]
theorem sc__law_near : FnScope N__law_near ps__law_near (defScope st__law_near) := ⟨rfl, rfl, rfl, by decide +kernel, rfl, by decide +kernel, by decide +kernel⟩
def t__law_near_0_5 : DTS := dSeq (dRet (dCall 2 S__law_pick (dCons (dVar 0) (dCons (dC (.str [48, 49, 50, 51, 52, 53, 54, 55, 56, 57, 45, 45])) dNil)))) dNext
def t__law_near_1_0 : DTS := dSeq (dRet (dCall 1 S__law_word (dCons (dVar 0) dNil))) dNext
def t__law_near_0_4 : DTS := dSeq (dIf (dBl (dOp (sCmp .Eq) (dVar 1) (dC (.int 4)))) t__law_near_1_0 dNext) t__law_near_0_5
def t__law_near_2_2 : DTS := dSeq (dRet (dOp sIx (dLst (dCons (dVar 2) (dCons (dOp sAdd (dVar 2) (dC (.str [97]))) (dCons (dOp sAdd (dOp sAdd (dSl (dVar 2) dNo (dSo (dVar 3))) (dCall 2 S__law_pick (dCons (dVar 0) (dCons (dC (.str [65, 49, 95, 32, 122])) dNil)))) (dSl (dVar 2) (dSo (dOp sAdd (dVar 3) (dC (.int 1)))) dNo)) dNil)))) (dCall 2 S__law_take (dCons (dVar 0) (dCons (dC (.int 3)) dNil))))) dNext
def t__law_near_2_1 : DTS := dSeq (dAsg (dCall 2 S__law_take (dCons (dVar 0) (dCons (dCl (s1 kLenN) (dCons (dVar 2) dNil)) dNil))) (gN 3)) t__law_near_2_2
def t__law_near_2_0 : DTS := dSeq (dAsg (dCall 1 S__law_name (dCons (dVar 0) dNil)) (gN 2)) t__law_near_2_1
def t__law_near_0_3 : DTS := dSeq (dIf (dBl (dOp (sCmp .Eq) (dVar 1) (dC (.int 3)))) t__law_near_2_0 dNext) t__law_near_0_4
def t__law_near_3_0 : DTS := dSeq (dRet (dOp sAdd (dCall 2 S__law_pick (dCons (dVar 0) (dCons (dLst (dCons (dC (.str [114])) (dCons (dC (.str [99])) (dCons (dC (.str [114])) (dCons (dC (.str [99])) (dCons (dC (.str [82])) (dCons (dC (.str [])) (dCons (dC (.str [120])) (dCons (dC (.str [114, 99])) dNil))))))))) dNil))) (dCall 1 S__law_digits (dCons (dVar 0) dNil)))) dNext
def t__law_near_0_2 : DTS := dSeq (dIf (dBl (dOp (sCmp .Eq) (dVar 1) (dC (.int 2)))) t__law_near_3_0 dNext) t__law_near_0_3
def t__law_near_4_0 : DTS := dSeq (dRet (dCall 1 S__law_digits (dCons (dVar 0) dNil))) dNext
def t__law_near_0_1 : DTS := dSeq (dIf (dBl (dOp (sCmp .Lt) (dVar 1) (dC (.int 2)))) t__law_near_4_0 dNext) t__law_near_0_2
def t__law_near_0_0 : DTS := dSeq (dAsg (dCall 2 S__law_take (dCons (dVar 0) (dCons (dC (.int 6)) dNil))) (gN 1)) t__law_near_0_1
abbrev t__law_near : DTS := t__law_near_0_0
theorem se__law_near (w0 : W) : startE N__law_near [w0] = [some w0, none, none, none] := rfl
theorem w__law_near {X : Cx} {k : Nat} (h : FX N__law_near (defScope st__law_near) none k X) (ho : PassesOwn (model X.prog X.w) X.A X.env X.xe) {l__law_pick : Nat} (c__law_pick : DFn X.prog X.w X.K X.mg X.base "_law_pick" ps__law_pick l__law_pick S__law_pick) (j__law_pick : Nat.ble l__law_pick k = true) {l__law_word : Nat} (c__law_word : DFn X.prog X.w X.K X.mg X.base "_law_word" ps__law_word l__law_word S__law_word) (j__law_word : Nat.ble l__law_word k = true) {l__law_take : Nat} (c__law_take : DFn X.prog X.w X.K X.mg X.base "_law_take" ps__law_take l__law_take S__law_take) (j__law_take : Nat.ble l__law_take k = true) {l__law_name : Nat} (c__law_name : DFn X.prog X.w X.K X.mg X.base "_law_name" ps__law_name l__law_name S__law_name) (j__law_name : Nat.ble l__law_name k = true) {l__law_digits : Nat} (c__law_digits : DFn X.prog X.w X.K X.mg X.base "_law_digits" ps__law_digits l__law_digits S__law_digits) (j__law_digits : Nat.ble l__law_digits k = true) (m_len : X.mg "len" = none) : DSs X (defBody st__law_near) (t__law_near) :=
    (dss_cons (ds_asg rfl rfl tg_name (h.call c__law_take j__law_take (by decide +kernel) (pls_cons pl_name (pls_cons pl_con pls_nil)) (da_cons pl_name (h.var (i := 0) (by decide +kernel)) (da_cons pl_con de_int da_nil))) (h.tg (by decide +kernel)))
      (dss_cons (ds_if (h.tcmp .Lt pl_con (h.var (i := 1) (by decide +kernel)) de_int) (dss_cons (ds_ret (h.call c__law_digits j__law_digits (by decide +kernel) (pls_cons pl_name pls_nil) (da_cons pl_name (h.var (i := 0) (by decide +kernel)) da_nil)))
      dss_nil) dss_nil)
      (dss_cons (ds_if (h.tcmp .Eq pl_con (h.var (i := 1) (by decide +kernel)) de_int) (dss_cons (ds_ret (de_add (h.call c__law_pick j__law_pick (by decide +kernel) (pls_cons pl_name (pls_cons pl_lst pls_nil)) (da_cons pl_name (h.var (i := 0) (by decide +kernel)) (da_cons pl_lst (de_lst (da_cons pl_con de_str (da_cons pl_con de_str (da_cons pl_con de_str (da_cons pl_con de_str (da_cons pl_con de_str (da_cons pl_con de_str (da_cons pl_con de_str (da_cons pl_con de_str da_nil))))))))) da_nil))) (h.call c__law_digits j__law_digits (by decide +kernel) (pls_cons pl_name pls_nil) (da_cons pl_name (h.var (i := 0) (by decide +kernel)) da_nil))))
      dss_nil) dss_nil)
      (dss_cons (ds_if (h.tcmp .Eq pl_con (h.var (i := 1) (by decide +kernel)) de_int) (dss_cons (ds_asg rfl rfl tg_name (h.call c__law_name j__law_name (by decide +kernel) (pls_cons pl_name pls_nil) (da_cons pl_name (h.var (i := 0) (by decide +kernel)) da_nil)) (h.tg (by decide +kernel)))
      (dss_cons (ds_asg rfl rfl tg_name (h.call c__law_take j__law_take (by decide +kernel) (pls_cons pl_name (pls_cons pl_call pls_nil)) (da_cons pl_name (h.var (i := 0) (by decide +kernel)) (da_cons pl_call (h.len (by decide +kernel) m_len (pls_cons pl_name pls_nil) (da_cons pl_name (h.var (i := 2) (by decide +kernel)) da_nil)) da_nil))) (h.tg (by decide +kernel)))
      (dss_cons (ds_ret (de_ix pl_call (de_lst (da_cons pl_name (h.var (i := 2) (by decide +kernel)) (da_cons pl_bin (de_add (h.var (i := 2) (by decide +kernel)) de_str) (da_cons pl_bin (de_add (de_add (de_sl (h.var (i := 2) (by decide +kernel)) do_no (do_so (h.var (i := 3) (by decide +kernel)))) (h.call c__law_pick j__law_pick (by decide +kernel) (pls_cons pl_name (pls_cons pl_con pls_nil)) (da_cons pl_name (h.var (i := 0) (by decide +kernel)) (da_cons pl_con de_str da_nil)))) (de_sl (h.var (i := 2) (by decide +kernel)) (do_so (de_add (h.var (i := 3) (by decide +kernel)) de_int)) do_no)) da_nil)))) (h.call c__law_take j__law_take (by decide +kernel) (pls_cons pl_name (pls_cons pl_con pls_nil)) (da_cons pl_name (h.var (i := 0) (by decide +kernel)) (da_cons pl_con de_int da_nil)))))
      dss_nil))) dss_nil)
      (dss_cons (ds_if (h.tcmp .Eq pl_con (h.var (i := 1) (by decide +kernel)) de_int) (dss_cons (ds_ret (h.call c__law_word j__law_word (by decide +kernel) (pls_cons pl_name pls_nil) (da_cons pl_name (h.var (i := 0) (by decide +kernel)) da_nil)))
      dss_nil) dss_nil)
      (dss_cons (ds_ret (h.call c__law_pick j__law_pick (by decide +kernel) (pls_cons pl_name (pls_cons pl_con pls_nil)) (da_cons pl_name (h.var (i := 0) (by decide +kernel)) (da_cons pl_con de_str da_nil))))
      dss_nil))))))
/-! _law_word_right -/
def N__law_word_right : List Str := ["word", "told", "due"]
abbrev st__law_word_right : Stmt := top 30
abbrev ps__law_word_right : List Str := ["word"]
theorem sc__law_word_right : FnScope N__law_word_right ps__law_word_right (defScope st__law_word_right) := ⟨rfl, rfl, rfl, by decide +kernel, rfl, by decide +kernel, by decide +kernel⟩
def t__law_word_right_0_2 : DTS := dSeq (dRet (dCall 2 S__law_alike (dCons (dVar 1) (dCons (dOp sAdd (dVar 2) (dLst (dCons (dCall 1 S__law_spots (dCons (dLst (dCons (dC (.str [55])) (dCons (dVar 0) (dCons (dC (.str [45])) dNil)))) dNil)) dNil))) dNil)))) dNext
def t__law_word_right_0_1 : DTS := dSeq (dAsg (dLst (dCons (dCall 1 S__law_first (dCons (dCall 1 S__law_number (dCons (dVar 0) dNil)) dNil)) (dCons (dCall 1 S__law_first (dCons (dCall 1 S__law_cut (dCons (dVar 0) dNil)) dNil)) (dCons (dCall 1 S__law_named (dCons (dVar 0) dNil)) (dCons (dCall 1 S__law_spots (dCons (dLst (dCons (dVar 0) dNil)) dNil)) dNil))))) (gN 2)) t__law_word_right_0_2
def t__law_word_right_0_0 : DTS := dSeq (dAsg (dLst (dCons (dCall 1 S_read_number (dCons (dVar 0) dNil)) (dCons (dCall 1 S_read_cut (dCons (dVar 0) dNil)) (dCons (dCall 1 S_is_name (dCons (dVar 0) dNil)) (dCons (dCall 1 S_read_places (dCons (dLst (dCons (dVar 0) dNil)) dNil)) (dCons (dCall 1 S_read_places (dCons (dLst (dCons (dC (.str [55])) (dCons (dVar 0) (dCons (dC (.str [45])) dNil)))) dNil)) dNil)))))) (gN 1)) t__law_word_right_0_1
abbrev t__law_word_right : DTS := t__law_word_right_0_0
theorem se__law_word_right (w0 : W) : startE N__law_word_right [w0] = [some w0, none, none] := rfl
theorem w__law_word_right {X : Cx} {k : Nat} (h : FX N__law_word_right (defScope st__law_word_right) none k X) (ho : PassesOwn (model X.prog X.w) X.A X.env X.xe) {l__law_spots : Nat} (c__law_spots : DFn X.prog X.w X.K X.mg X.base "_law_spots" ps__law_spots l__law_spots S__law_spots) (j__law_spots : Nat.ble l__law_spots k = true) {l__law_alike : Nat} (c__law_alike : DFn X.prog X.w X.K X.mg X.base "_law_alike" ps__law_alike l__law_alike S__law_alike) (j__law_alike : Nat.ble l__law_alike k = true) {l__law_named : Nat} (c__law_named : DFn X.prog X.w X.K X.mg X.base "_law_named" ps__law_named l__law_named S__law_named) (j__law_named : Nat.ble l__law_named k = true) {l__law_cut : Nat} (c__law_cut : DFn X.prog X.w X.K X.mg X.base "_law_cut" ps__law_cut l__law_cut S__law_cut) (j__law_cut : Nat.ble l__law_cut k = true) {l__law_first : Nat} (c__law_first : DFn X.prog X.w X.K X.mg X.base "_law_first" ps__law_first l__law_first S__law_first) (j__law_first : Nat.ble l__law_first k = true) {l__law_number : Nat} (c__law_number : DFn X.prog X.w X.K X.mg X.base "_law_number" ps__law_number l__law_number S__law_number) (j__law_number : Nat.ble l__law_number k = true) {l_read_places : Nat} (c_read_places : DFn X.prog X.w X.K X.mg X.base "read_places" ps_read_places l_read_places S_read_places) (j_read_places : Nat.ble l_read_places k = true) {l_is_name : Nat} (c_is_name : DFn X.prog X.w X.K X.mg X.base "is_name" ps_is_name l_is_name S_is_name) (j_is_name : Nat.ble l_is_name k = true) {l_read_cut : Nat} (c_read_cut : DFn X.prog X.w X.K X.mg X.base "read_cut" ps_read_cut l_read_cut S_read_cut) (j_read_cut : Nat.ble l_read_cut k = true) {l_read_number : Nat} (c_read_number : DFn X.prog X.w X.K X.mg X.base "read_number" ps_read_number l_read_number S_read_number) (j_read_number : Nat.ble l_read_number k = true) : DSs X (defBody st__law_word_right) (t__law_word_right) :=
    (dss_cons (ds_asg rfl rfl tg_name (de_lst (da_cons pl_call (h.call c_read_number j_read_number (by decide +kernel) (pls_cons pl_name pls_nil) (da_cons pl_name (h.var (i := 0) (by decide +kernel)) da_nil)) (da_cons pl_call (h.call c_read_cut j_read_cut (by decide +kernel) (pls_cons pl_name pls_nil) (da_cons pl_name (h.var (i := 0) (by decide +kernel)) da_nil)) (da_cons pl_call (h.call c_is_name j_is_name (by decide +kernel) (pls_cons pl_name pls_nil) (da_cons pl_name (h.var (i := 0) (by decide +kernel)) da_nil)) (da_cons pl_call (h.call c_read_places j_read_places (by decide +kernel) (pls_cons pl_lst pls_nil) (da_cons pl_lst (de_lst (da_cons pl_name (h.var (i := 0) (by decide +kernel)) da_nil)) da_nil)) (da_cons pl_call (h.call c_read_places j_read_places (by decide +kernel) (pls_cons pl_lst pls_nil) (da_cons pl_lst (de_lst (da_cons pl_con de_str (da_cons pl_name (h.var (i := 0) (by decide +kernel)) (da_cons pl_con de_str da_nil)))) da_nil)) da_nil)))))) (h.tg (by decide +kernel)))
      (dss_cons (ds_asg rfl rfl tg_name (de_lst (da_cons pl_call (h.call c__law_first j__law_first (by decide +kernel) (pls_cons pl_call pls_nil) (da_cons pl_call (h.call c__law_number j__law_number (by decide +kernel) (pls_cons pl_name pls_nil) (da_cons pl_name (h.var (i := 0) (by decide +kernel)) da_nil)) da_nil)) (da_cons pl_call (h.call c__law_first j__law_first (by decide +kernel) (pls_cons pl_call pls_nil) (da_cons pl_call (h.call c__law_cut j__law_cut (by decide +kernel) (pls_cons pl_name pls_nil) (da_cons pl_name (h.var (i := 0) (by decide +kernel)) da_nil)) da_nil)) (da_cons pl_call (h.call c__law_named j__law_named (by decide +kernel) (pls_cons pl_name pls_nil) (da_cons pl_name (h.var (i := 0) (by decide +kernel)) da_nil)) (da_cons pl_call (h.call c__law_spots j__law_spots (by decide +kernel) (pls_cons pl_lst pls_nil) (da_cons pl_lst (de_lst (da_cons pl_name (h.var (i := 0) (by decide +kernel)) da_nil)) da_nil)) da_nil))))) (h.tg (by decide +kernel)))
      (dss_cons (ds_ret (h.call c__law_alike j__law_alike (by decide +kernel) (pls_cons pl_name (pls_cons pl_bin pls_nil)) (da_cons pl_name (h.var (i := 1) (by decide +kernel)) (da_cons pl_bin (de_add (h.var (i := 2) (by decide +kernel)) (de_lst (da_cons pl_call (h.call c__law_spots j__law_spots (by decide +kernel) (pls_cons pl_lst pls_nil) (da_cons pl_lst (de_lst (da_cons pl_con de_str (da_cons pl_name (h.var (i := 0) (by decide +kernel)) (da_cons pl_con de_str da_nil)))) da_nil)) da_nil))) da_nil))))
      dss_nil)))
/-! _law_places_right -/
def N__law_places_right : List Str := ["words", "handed", "told", "due"]
abbrev st__law_places_right : Stmt := top 31
abbrev ps__law_places_right : List Str := ["words"]
theorem sc__law_places_right : FnScope N__law_places_right ps__law_places_right (defScope st__law_places_right) := ⟨rfl, rfl, rfl, by decide +kernel, rfl, by decide +kernel, by decide +kernel⟩
def t__law_places_right_0_6 : DTS := dSeq (dRet (dCall 2 S__law_alike (dCons (dCall 1 S_read_places (dCons (dCl (s1 kListOf) (dCons (dVar 0) dNil)) dNil)) (dCons (dVar 3) dNil)))) dNext
def t__law_places_right_0_5 : DTS := dSeq (dDrop (dBm "list" mApp (dVar 1) (dCons (dC (.str [120])) dNil))) t__law_places_right_0_6
def t__law_places_right_1_0 : DTS := dSeq (dDrop (dBm "list" mApp (dVar 2) (dCons (dC (.int 3)) dNil))) dNext
def t__law_places_right_0_4 : DTS := dSeq (dIf (dBl (dOp (sCmp .IsNot) (dVar 3) (dC .non))) t__law_places_right_1_0 dNext) t__law_places_right_0_5
def t__law_places_right_2_0 : DTS := dSeq (dRet (dC (.bl false))) dNext
def t__law_places_right_0_3 : DTS := dSeq (dIf (dOrT (dNotT (dTru (dCall 2 S__law_alike (dCons (dVar 2) (dCons (dVar 3) dNil))))) (dBl (dOp (sCmp .NotEq) (dVar 1) (dVar 0)))) t__law_places_right_2_0 dNext) t__law_places_right_0_4
def t__law_places_right_0_2 : DTS := dSeq (dAsg (dCall 1 S__law_spots (dCons (dVar 0) dNil)) (gN 3)) t__law_places_right_0_3
def t__law_places_right_0_1 : DTS := dSeq (dAsg (dCall 1 S_read_places (dCons (dVar 1) dNil)) (gN 2)) t__law_places_right_0_2
def t__law_places_right_0_0 : DTS := dSeq (dAsg (dCl (s1 kListOf) (dCons (dVar 0) dNil)) (gN 1)) t__law_places_right_0_1
abbrev t__law_places_right : DTS := t__law_places_right_0_0
theorem se__law_places_right (w0 : W) : startE N__law_places_right [w0] = [some w0, none, none, none] := rfl
theorem w__law_places_right {X : Cx} {k : Nat} (h : FX N__law_places_right (defScope st__law_places_right) none k X) (ho : PassesOwn (model X.prog X.w) X.A X.env X.xe) {l_read_places : Nat} (c_read_places : DFn X.prog X.w X.K X.mg X.base "read_places" ps_read_places l_read_places S_read_places) (j_read_places : Nat.ble l_read_places k = true) {l__law_alike : Nat} (c__law_alike : DFn X.prog X.w X.K X.mg X.base "_law_alike" ps__law_alike l__law_alike S__law_alike) (j__law_alike : Nat.ble l__law_alike k = true) {l__law_spots : Nat} (c__law_spots : DFn X.prog X.w X.K X.mg X.base "_law_spots" ps__law_spots l__law_spots S__law_spots) (j__law_spots : Nat.ble l__law_spots k = true) (m_list : X.mg "list" = none) : DSs X (defBody st__law_places_right) (t__law_places_right) :=
    (dss_cons (ds_asg rfl rfl tg_name (h.list (by decide +kernel) m_list (pls_cons pl_name pls_nil) (da_cons pl_name (h.var (i := 0) (by decide +kernel)) da_nil)) (h.tg (by decide +kernel)))
      (dss_cons (ds_asg rfl rfl tg_name (h.call c_read_places j_read_places (by decide +kernel) (pls_cons pl_name pls_nil) (da_cons pl_name (h.var (i := 1) (by decide +kernel)) da_nil)) (h.tg (by decide +kernel)))
      (dss_cons (ds_asg rfl rfl tg_name (h.call c__law_spots j__law_spots (by decide +kernel) (pls_cons pl_name pls_nil) (da_cons pl_name (h.var (i := 0) (by decide +kernel)) da_nil)) (h.tg (by decide +kernel)))
      (dss_cons (ds_if (DW.dt (dw_or (dt_not (dt_tru tr_call (h.call c__law_alike j__law_alike (by decide +kernel) (pls_cons pl_name (pls_cons pl_name pls_nil)) (da_cons pl_name (h.var (i := 2) (by decide +kernel)) (da_cons pl_name (h.var (i := 3) (by decide +kernel)) da_nil))))) (dw_or1 (h.tcmp .NotEq pl_name (h.var (i := 1) (by decide +kernel)) (h.var (i := 0) (by decide +kernel)))))) (dss_cons (ds_ret de_bl)
      dss_nil) dss_nil)
      (dss_cons (ds_if (h.tcmp .IsNot pl_con (h.var (i := 3) (by decide +kernel)) de_non) (dss_cons (ds_expr rfl (h.app ab_name (by decide +kernel) (pls_cons pl_con pls_nil) (h.var (i := 2) (by decide +kernel)) (da_cons pl_con de_int da_nil)))
      dss_nil) dss_nil)
      (dss_cons (ds_expr rfl (h.app ab_name (by decide +kernel) (pls_cons pl_con pls_nil) (h.var (i := 1) (by decide +kernel)) (da_cons pl_con de_str da_nil)))
      (dss_cons (ds_ret (h.call c__law_alike j__law_alike (by decide +kernel) (pls_cons pl_call (pls_cons pl_name pls_nil)) (da_cons pl_call (h.call c_read_places j_read_places (by decide +kernel) (pls_cons pl_call pls_nil) (da_cons pl_call (h.list (by decide +kernel) m_list (pls_cons pl_name pls_nil) (da_cons pl_name (h.var (i := 0) (by decide +kernel)) da_nil)) da_nil)) (da_cons pl_name (h.var (i := 3) (by decide +kernel)) da_nil))))
      dss_nil)))))))
/-! _law_line_right -/
def N__law_line_right : List Str := ["line", "told", "due"]
abbrev st__law_line_right : Stmt := top 32
abbrev ps__law_line_right : List Str := ["line"]
theorem sc__law_line_right : FnScope N__law_line_right ps__law_line_right (defScope st__law_line_right) := ⟨rfl, rfl, rfl, by decide +kernel, rfl, by decide +kernel, by decide +kernel⟩
def t__law_line_right_0_4 : DTS := dSeq (dRet (dCall 2 S__law_alike (dCons (dCall 1 S_split_line (dCons (dVar 0) dNil)) (dCons (dVar 2) dNil)))) dNext
def t__law_line_right_0_3 : DTS := dSeq (dDrop (dBm "list" mApp (dVar 1) (dCons (dC (.str [122, 122])) dNil))) t__law_line_right_0_4
def t__law_line_right_1_0 : DTS := dSeq (dRet (dC (.bl false))) dNext
def t__law_line_right_0_2 : DTS := dSeq (dIf (dNotT (dTru (dCall 2 S__law_alike (dCons (dVar 1) (dCons (dVar 2) dNil))))) t__law_line_right_1_0 dNext) t__law_line_right_0_3
def t__law_line_right_0_1 : DTS := dSeq (dAsg (dCall 1 S__law_parted (dCons (dVar 0) dNil)) (gN 2)) t__law_line_right_0_2
def t__law_line_right_0_0 : DTS := dSeq (dAsg (dCall 1 S_split_line (dCons (dVar 0) dNil)) (gN 1)) t__law_line_right_0_1
abbrev t__law_line_right : DTS := t__law_line_right_0_0
theorem se__law_line_right (w0 : W) : startE N__law_line_right [w0] = [some w0, none, none] := rfl
theorem w__law_line_right {X : Cx} {k : Nat} (h : FX N__law_line_right (defScope st__law_line_right) none k X) (ho : PassesOwn (model X.prog X.w) X.A X.env X.xe) {l_split_line : Nat} (c_split_line : DFn X.prog X.w X.K X.mg X.base "split_line" ps_split_line l_split_line S_split_line) (j_split_line : Nat.ble l_split_line k = true) {l__law_alike : Nat} (c__law_alike : DFn X.prog X.w X.K X.mg X.base "_law_alike" ps__law_alike l__law_alike S__law_alike) (j__law_alike : Nat.ble l__law_alike k = true) {l__law_parted : Nat} (c__law_parted : DFn X.prog X.w X.K X.mg X.base "_law_parted" ps__law_parted l__law_parted S__law_parted) (j__law_parted : Nat.ble l__law_parted k = true) : DSs X (defBody st__law_line_right) (t__law_line_right) :=
    (dss_cons (ds_asg rfl rfl tg_name (h.call c_split_line j_split_line (by decide +kernel) (pls_cons pl_name pls_nil) (da_cons pl_name (h.var (i := 0) (by decide +kernel)) da_nil)) (h.tg (by decide +kernel)))
      (dss_cons (ds_asg rfl rfl tg_name (h.call c__law_parted j__law_parted (by decide +kernel) (pls_cons pl_name pls_nil) (da_cons pl_name (h.var (i := 0) (by decide +kernel)) da_nil)) (h.tg (by decide +kernel)))
      (dss_cons (ds_if (dt_not (dt_tru tr_call (h.call c__law_alike j__law_alike (by decide +kernel) (pls_cons pl_name (pls_cons pl_name pls_nil)) (da_cons pl_name (h.var (i := 1) (by decide +kernel)) (da_cons pl_name (h.var (i := 2) (by decide +kernel)) da_nil))))) (dss_cons (ds_ret de_bl)
      dss_nil) dss_nil)
      (dss_cons (ds_expr rfl (h.app ab_name (by decide +kernel) (pls_cons pl_con pls_nil) (h.var (i := 1) (by decide +kernel)) (da_cons pl_con de_str da_nil)))
      (dss_cons (ds_ret (h.call c__law_alike j__law_alike (by decide +kernel) (pls_cons pl_call (pls_cons pl_name pls_nil)) (da_cons pl_call (h.call c_split_line j_split_line (by decide +kernel) (pls_cons pl_name pls_nil) (da_cons pl_name (h.var (i := 0) (by decide +kernel)) da_nil)) (da_cons pl_name (h.var (i := 2) (by decide +kernel)) da_nil))))
      dss_nil)))))
/-! _law_words -/
def N__law_words : List Str := ["store", "many", "words", "k"]
abbrev st__law_words : Stmt := top 33
abbrev ps__law_words : List Str := ["store"]
theorem sc__law_words : FnScope N__law_words ps__law_words (defScope st__law_words) := ⟨rfl, rfl, rfl, by decide +kernel, rfl, by decide +kernel, by decide +kernel⟩
def t__law_words_0_4 : DTS := dSeq (dRet (dVar 2)) dNext
def t__law_words_2_0 : DTS := dSeq (dAsg (dCall 1 S__law_near (dCons (dVar 0) dNil)) (gSub (dVar 2) (dCall 2 S__law_take (dCons (dVar 0) (dCons (dVar 1) dNil))))) dNext
def t__law_words_1_0 : DTS := dSeq (dFor (dRng1 (dOp sAdd (dC (.int 1)) (dCall 2 S__law_take (dCons (dVar 0) (dCons (dC (.int 2)) dNil))))) (gN 3) t__law_words_2_0) dNext
def t__law_words_0_3 : DTS := dSeq (dIf (dAndT (dBl (dOp (sCmp .Gt) (dVar 1) (dC (.int 0)))) (dBl (dOp (sCmp .Eq) (dCall 2 S__law_take (dCons (dVar 0) (dCons (dC (.int 2)) dNil))) (dC (.int 0))))) t__law_words_1_0 dNext) t__law_words_0_4
def t__law_words_0_2 : DTS := dSeq (dAsg (dComp [3] (dRng1 (dVar 1)) (gN 3) dYes (dCall 2 S__law_pick (dCons (dVar 0) (dCons (dC (.str [48, 49, 50, 51, 52, 53, 54, 55, 56, 57, 45])) dNil)))) (gN 2)) t__law_words_0_3
def t__law_words_3_0 : DTS := dSeq (dAsg (dC (.int 1000)) (gN 1)) dNext
def t__law_words_0_1 : DTS := dSeq (dIf (dBl (dOp (sCmp .Eq) (dCall 2 S__law_take (dCons (dVar 0) (dCons (dC (.int 12)) dNil))) (dC (.int 0)))) t__law_words_3_0 dNext) t__law_words_0_2
def t__law_words_0_0 : DTS := dSeq (dAsg (dCall 3 S__law_between (dCons (dVar 0) (dCons (dC (.int 0)) (dCons (dC (.int 12)) dNil)))) (gN 1)) t__law_words_0_1
abbrev t__law_words : DTS := t__law_words_0_0
theorem se__law_words (w0 : W) : startE N__law_words [w0] = [some w0, none, none, none] := rfl
theorem w__law_words {X : Cx} {k : Nat} (h : FX N__law_words (defScope st__law_words) none k X) (ho : PassesOwn (model X.prog X.w) X.A X.env X.xe) {l__law_take : Nat} (c__law_take : DFn X.prog X.w X.K X.mg X.base "_law_take" ps__law_take l__law_take S__law_take) (j__law_take : Nat.ble l__law_take k = true) {l__law_near : Nat} (c__law_near : DFn X.prog X.w X.K X.mg X.base "_law_near" ps__law_near l__law_near S__law_near) (j__law_near : Nat.ble l__law_near k = true) {l__law_pick : Nat} (c__law_pick : DFn X.prog X.w X.K X.mg X.base "_law_pick" ps__law_pick l__law_pick S__law_pick) (j__law_pick : Nat.ble l__law_pick k = true) {l__law_between : Nat} (c__law_between : DFn X.prog X.w X.K X.mg X.base "_law_between" ps__law_between l__law_between S__law_between) (j__law_between : Nat.ble l__law_between k = true) (m_range : X.mg "range" = none) : DSs X (defBody st__law_words) (t__law_words) :=
    (dss_cons (ds_asg rfl rfl tg_name (h.call c__law_between j__law_between (by decide +kernel) (pls_cons pl_name (pls_cons pl_con (pls_cons pl_con pls_nil))) (da_cons pl_name (h.var (i := 0) (by decide +kernel)) (da_cons pl_con de_int (da_cons pl_con de_int da_nil)))) (h.tg (by decide +kernel)))
      (dss_cons (ds_if (h.tcmp .Eq pl_con (h.call c__law_take j__law_take (by decide +kernel) (pls_cons pl_name (pls_cons pl_con pls_nil)) (da_cons pl_name (h.var (i := 0) (by decide +kernel)) (da_cons pl_con de_int da_nil))) de_int) (dss_cons (ds_asg rfl rfl tg_name de_int (h.tg (by decide +kernel)))
      dss_nil) dss_nil)
      (dss_cons (h.asgC (i := 2) (own := [("k", 3)]) (sl := [3]) (by decide +kernel) (by decide +kernel) (by decide +kernel) (by decide +kernel) (by decide +kernel) pl_call (h.rng1 (by decide +kernel) m_range pl_name (h.var (i := 1) (by decide +kernel))) (fun _ h1 e0_1 e0_2 e0_3 e0_4 e0_5 => ⟨(h1.tg (by decide +kernel)), dts_nil, (h1.call (c__law_pick.on e0_1 e0_2 e0_3 e0_4 e0_5) j__law_pick (by decide +kernel) (pls_cons pl_name (pls_cons pl_con pls_nil)) (da_cons pl_name (h1.var (i := 0) (by decide +kernel)) (da_cons pl_con de_str da_nil)))⟩))
      (dss_cons (ds_if (DW.dt (dw_and (h.tcmp .Gt pl_con (h.var (i := 1) (by decide +kernel)) de_int) (dw_and1 (h.tcmp .Eq pl_con (h.call c__law_take j__law_take (by decide +kernel) (pls_cons pl_name (pls_cons pl_con pls_nil)) (da_cons pl_name (h.var (i := 0) (by decide +kernel)) (da_cons pl_con de_int da_nil))) de_int)))) (dss_cons (h.for_ ho pl_call (h.rng1 (by decide +kernel) m_range pl_bin (de_add de_int (h.call c__law_take j__law_take (by decide +kernel) (pls_cons pl_name (pls_cons pl_con pls_nil)) (da_cons pl_name (h.var (i := 0) (by decide +kernel)) (da_cons pl_con de_int da_nil))))) (h.tg (by decide +kernel)) (dss_cons (ds_asg rfl rfl tg_sub (h.call c__law_near j__law_near (by decide +kernel) (pls_cons pl_name pls_nil) (da_cons pl_name (h.var (i := 0) (by decide +kernel)) da_nil)) (dg_sub (h.var (i := 2) (by decide +kernel)) (h.call c__law_take j__law_take (by decide +kernel) (pls_cons pl_name (pls_cons pl_name pls_nil)) (da_cons pl_name (h.var (i := 0) (by decide +kernel)) (da_cons pl_name (h.var (i := 1) (by decide +kernel)) da_nil))) fun _ => rfl))
      dss_nil))
      dss_nil) dss_nil)
      (dss_cons (ds_ret (h.var (i := 2) (by decide +kernel)))
      dss_nil)))))
/-! _law_line -/
def N__law_line : List Str := ["store", "many", "line", "k", "sign"]
abbrev st__law_line : Stmt := top 34
abbrev ps__law_line : List Str := ["store"]
theorem sc__law_line : FnScope N__law_line ps__law_line (defScope st__law_line) := ⟨rfl, rfl, rfl, by decide +kernel, rfl, by decide +kernel, by decide +kernel⟩
def t__law_line_0_4 : DTS := dSeq (dRet (dBm "str" mJoin (dC (.str [])) (dCons (dVar 2) dNil))) dNext
def t__law_line_1_2 : DTS := dSeq (dDrop (dBm "list" mApp (dVar 2) (dCons (dVar 4) dNil))) dNext
def t__law_line_2_0 : DTS := dSeq (dAsg (dCall 1 S__law_char (dCons (dVar 0) dNil)) (gN 4)) dNext
def t__law_line_1_1 : DTS := dSeq (dIf (dBl (dOp (sCmp .Gt) (dCall 2 S__law_take (dCons (dVar 0) (dCons (dC (.int 3)) dNil))) (dC (.int 0)))) t__law_line_2_0 dNext) t__law_line_1_2
def t__law_line_1_0 : DTS := dSeq (dAsg (dC (.str [32])) (gN 4)) t__law_line_1_1
def t__law_line_0_3 : DTS := dSeq (dFor (dRng1 (dVar 1)) (gN 3) t__law_line_1_0) t__law_line_0_4
def t__law_line_0_2 : DTS := dSeq (dAsg (dLst dNil) (gN 2)) t__law_line_0_3
def t__law_line_3_0 : DTS := dSeq (dAsg (dOp sAdd (dC (.int 3999)) (dCall 2 S__law_take (dCons (dVar 0) (dCons (dC (.int 2)) dNil)))) (gN 1)) dNext
def t__law_line_0_1 : DTS := dSeq (dIf (dBl (dOp (sCmp .Eq) (dCall 2 S__law_take (dCons (dVar 0) (dCons (dC (.int 12)) dNil))) (dC (.int 0)))) t__law_line_3_0 dNext) t__law_line_0_2
def t__law_line_0_0 : DTS := dSeq (dAsg (dCall 3 S__law_between (dCons (dVar 0) (dCons (dC (.int 0)) (dCons (dC (.int 40)) dNil)))) (gN 1)) t__law_line_0_1
abbrev t__law_line : DTS := t__law_line_0_0
theorem se__law_line (w0 : W) : startE N__law_line [w0] = [some w0, none, none, none, none] := rfl
theorem w__law_line {X : Cx} {k : Nat} (h : FX N__law_line (defScope st__law_line) none k X) (ho : PassesOwn (model X.prog X.w) X.A X.env X.xe) {l__law_take : Nat} (c__law_take : DFn X.prog X.w X.K X.mg X.base "_law_take" ps__law_take l__law_take S__law_take) (j__law_take : Nat.ble l__law_take k = true) {l__law_char : Nat} (c__law_char : DFn X.prog X.w X.K X.mg X.base "_law_char" ps__law_char l__law_char S__law_char) (j__law_char : Nat.ble l__law_char k = true) {l__law_between : Nat} (c__law_between : DFn X.prog X.w X.K X.mg X.base "_law_between" ps__law_between l__law_between S__law_between) (j__law_between : Nat.ble l__law_between k = true) (m_range : X.mg "range" = none) : DSs X (defBody st__law_line) (t__law_line) :=
    (dss_cons (ds_asg rfl rfl tg_name (h.call c__law_between j__law_between (by decide +kernel) (pls_cons pl_name (pls_cons pl_con (pls_cons pl_con pls_nil))) (da_cons pl_name (h.var (i := 0) (by decide +kernel)) (da_cons pl_con de_int (da_cons pl_con de_int da_nil)))) (h.tg (by decide +kernel)))
      (dss_cons (ds_if (h.tcmp .Eq pl_con (h.call c__law_take j__law_take (by decide +kernel) (pls_cons pl_name (pls_cons pl_con pls_nil)) (da_cons pl_name (h.var (i := 0) (by decide +kernel)) (da_cons pl_con de_int da_nil))) de_int) (dss_cons (ds_asg rfl rfl tg_name (de_add de_int (h.call c__law_take j__law_take (by decide +kernel) (pls_cons pl_name (pls_cons pl_con pls_nil)) (da_cons pl_name (h.var (i := 0) (by decide +kernel)) (da_cons pl_con de_int da_nil)))) (h.tg (by decide +kernel)))
      dss_nil) dss_nil)
      (dss_cons (ds_asg rfl rfl tg_name (de_lst da_nil) (h.tg (by decide +kernel)))
      (dss_cons (h.for_ ho pl_call (h.rng1 (by decide +kernel) m_range pl_name (h.var (i := 1) (by decide +kernel))) (h.tg (by decide +kernel)) (dss_cons (ds_asg rfl rfl tg_name de_str (h.tg (by decide +kernel)))
      (dss_cons (ds_if (h.tcmp .Gt pl_con (h.call c__law_take j__law_take (by decide +kernel) (pls_cons pl_name (pls_cons pl_con pls_nil)) (da_cons pl_name (h.var (i := 0) (by decide +kernel)) (da_cons pl_con de_int da_nil))) de_int) (dss_cons (ds_asg rfl rfl tg_name (h.call c__law_char j__law_char (by decide +kernel) (pls_cons pl_name pls_nil) (da_cons pl_name (h.var (i := 0) (by decide +kernel)) da_nil)) (h.tg (by decide +kernel)))
      dss_nil) dss_nil)
      (dss_cons (ds_expr rfl (h.app ab_name (by decide +kernel) (pls_cons pl_name pls_nil) (h.var (i := 2) (by decide +kernel)) (da_cons pl_name (h.var (i := 4) (by decide +kernel)) da_nil)))
      dss_nil))))
      (dss_cons (ds_ret (h.join ab_con (by decide +kernel) (pls_cons pl_name pls_nil) de_str (da_cons pl_name (h.var (i := 2) (by decide +kernel)) da_nil)))
      dss_nil)))))
/-! law -/
def N_law : List Str := ["script", "store", "words", "word", "numbers", "number", "cut", "spot", "due", "k"]
abbrev st_law : Stmt := top 35
abbrev ps_law : List Str := ["script"]
theorem sc_law : FnScope N_law ps_law (defScope st_law) := ⟨rfl, rfl, rfl, by decide +kernel, rfl, by decide +kernel, by decide +kernel⟩
def t_law_0_8 : DTS := dSeq (dRet (dAnd (dCall 1 S__law_line_right (dCons (dC (.str [])) dNil)) (dAnd (dCall 1 S__law_line_right (dCons (dC (.str [32])) dNil)) (dCall 1 S__law_line_right (dCons (dOp sAdd (dOp sAdd (dOp sIx (dVar 2) (dC (.int 10))) (dC (.str [32]))) (dOp sIx (dVar 2) (dC (.int 11)))) dNil))))) dNext
def t_law_2_0 : DTS := dSeq (dRet (dC (.bl false))) dNext
def t_law_1_0 : DTS := dSeq (dIf (dOrT (dNotT (dTru (dCall 1 S__law_places_right (dCons (dCall 1 S__law_words (dCons (dVar 1) dNil)) dNil)))) (dNotT (dTru (dCall 1 S__law_line_right (dCons (dCall 1 S__law_line (dCons (dVar 1) dNil)) dNil))))) t_law_2_0 dNext) dNext
def t_law_0_7 : DTS := dSeq (dFor (dRng1 (dC (.int 3))) (gN 9) t_law_1_0) t_law_0_8
def t_law_3_0 : DTS := dSeq (dRet (dC (.bl false))) dNext
def t_law_0_6 : DTS := dSeq (dIf (dOrT (dNotT (dTru (dCall 1 S__law_places_right (dCons (dLst dNil) dNil)))) (dNotT (dTru (dCall 1 S__law_places_right (dCons (dSl (dVar 2) dNo (dSo (dC (.int 9)))) dNil))))) t_law_3_0 dNext) t_law_0_7
def t_law_5_0 : DTS := dSeq (dRet (dC (.bl false))) dNext
def t_law_4_3 : DTS := dSeq (dIf (dNotT (dTru (dCall 2 S__law_alike (dCons (dLst (dCons (dVar 3) (dCons (dCall 1 S_read_places (dCons (dLst (dCons (dVar 3) dNil)) dNil)) dNil))) (dCons (dLst (dCons (dVar 8) (dCons (dLst (dCons (dVar 7) dNil)) dNil))) dNil))))) t_law_5_0 dNext) dNext
def t_law_6_0 : DTS := dSeq (dAsg (dCl (s1 kStr) (dCons (dVar 7) dNil)) (gN 8)) dNext
def t_law_4_2 : DTS := dSeq (dIf (dBl (dOp (sCmp .IsNot) (dVar 7) (dC .non))) t_law_6_0 dNext) t_law_4_3
def t_law_4_1 : DTS := dSeq (dAsg (dC (.str [45])) (gN 8)) t_law_4_2
def t_law_4_0 : DTS := dSeq (dAsg (dCall 1 S_place_word (dCons (dVar 7) dNil)) (gN 3)) t_law_4_1
def t_law_0_5 : DTS := dSeq (dFor (dRow (dOp sAdd (dLst (dCons (dC .non) dNil)) (dComp [9] (dRng1 (dC (.int 10))) (gN 9) dYes (dVar 9)))) (gN 7) t_law_4_0) t_law_0_6
def t_law_9_0 : DTS := dSeq (dRet (dC (.bl false))) dNext
def t_law_8_1 : DTS := dSeq (dIf (dNotT (dTru (dCall 2 S__law_alike (dCons (dLst (dCons (dVar 3) (dCons (dCall 1 S_read_cut (dCons (dVar 3) dNil)) dNil))) (dCons (dLst (dCons (dOp sAdd (dOp sIx (dOp sIx (dVar 6) (dC (.int 0))) (dC (.int 0))) (dCl (s1 kStr) (dCons (dVar 5) dNil))) (dCons (dVar 6) dNil))) dNil))))) t_law_9_0 dNext) dNext
def t_law_8_0 : DTS := dSeq (dAsg (dCall 1 S_cut_word (dCons (dVar 6) dNil)) (gN 3)) t_law_8_1
def t_law_7_0 : DTS := dSeq (dFor (dRow (dLst (dCons (dTup (dCons (dC (.str [114, 111, 119])) (dCons (dVar 5) dNil))) (dCons (dTup (dCons (dC (.str [99, 111, 108, 117, 109, 110])) (dCons (dVar 5) dNil))) dNil)))) (gN 6) t_law_8_0) dNext
def t_law_0_4 : DTS := dSeq (dFor (dRow (dVar 4)) (gN 5) t_law_7_0) t_law_0_5
def t_law_0_3 : DTS := dSeq (dAsg (dLst (dCons (dC (.int 0)) (dCons (dC (.int 999999999)) (dCons (dCall 2 S__law_take (dCons (dVar 1) (dCons (dC (.int 17)) dNil))) (dCons (dOp sAdd (dOp sMul (dCall 2 S__law_take (dCons (dVar 1) (dCons (dC (.int 1000000)) dNil))) (dC (.int 1000))) (dCall 2 S__law_take (dCons (dVar 1) (dCons (dC (.int 1000)) dNil)))) dNil))))) (gN 4)) t_law_0_4
def t_law_11_0 : DTS := dSeq (dRet (dC (.bl false))) dNext
def t_law_10_0 : DTS := dSeq (dIf (dNotT (dTru (dCall 1 S__law_word_right (dCons (dVar 3) dNil)))) t_law_11_0 dNext) dNext
def t_law_0_2 : DTS := dSeq (dFor (dRow (dVar 2)) (gN 3) t_law_10_0) t_law_0_3
def t_law_12_0 : DTS := dSeq (dDrop (dBm "list" mApp (dVar 2) (dCons (dOp sAdd (dOp sIx (dLst (dCons (dC (.str [])) (dCons (dC (.str [114])) (dCons (dC (.str [99])) (dCons (dC (.str [45])) dNil))))) (dCall 2 S__law_take (dCons (dVar 1) (dCons (dC (.int 4)) dNil)))) (dOp sMul (dOp sIx (dC (.str [48, 49, 50, 51, 52, 53, 54, 55, 56, 57])) (dCall 2 S__law_take (dCons (dVar 1) (dCons (dC (.int 10)) dNil)))) (dC (.int 3999)))) dNil))) dNext
def t_law_0_1 : DTS := dSeq (dIf (dBl (dOp (sCmp .Eq) (dCall 2 S__law_take (dCons (dVar 1) (dCons (dC (.int 8)) dNil))) (dC (.int 0)))) t_law_12_0 dNext) t_law_0_2
def t_law_0_0 : DTS := dSeq (dAsg (dOp sAdd (dLst (dCons (dC (.str [])) (dCons (dC (.str [48])) (dCons (dC (.str [48, 48])) (dCons (dC (.str [49, 48])) (dCons (dC (.str [45])) (dCons (dC (.str [114, 48])) (dCons (dC (.str [99, 48, 48])) (dCons (dC (.str [114])) (dCons (dC (.str [97])) dNil)))))))))) (dComp [9] (dRng1 (dC (.int 24))) (gN 9) dYes (dCall 1 S__law_near (dCons (dVar 1) dNil)))) (gN 2)) t_law_0_1
abbrev t_law : DTS := t_law_0_0
theorem w_law {X : Cx} {k : Nat} (h : FX N_law (defScope st_law) none k X) (ho : PassesOwn (model X.prog X.w) X.A X.env X.xe) {l__law_line_right : Nat} (c__law_line_right : DFn X.prog X.w X.K X.mg X.base "_law_line_right" ps__law_line_right l__law_line_right S__law_line_right) (j__law_line_right : Nat.ble l__law_line_right k = true) {l__law_line : Nat} (c__law_line : DFn X.prog X.w X.K X.mg X.base "_law_line" ps__law_line l__law_line S__law_line) (j__law_line : Nat.ble l__law_line k = true) {l__law_words : Nat} (c__law_words : DFn X.prog X.w X.K X.mg X.base "_law_words" ps__law_words l__law_words S__law_words) (j__law_words : Nat.ble l__law_words k = true) {l__law_places_right : Nat} (c__law_places_right : DFn X.prog X.w X.K X.mg X.base "_law_places_right" ps__law_places_right l__law_places_right S__law_places_right) (j__law_places_right : Nat.ble l__law_places_right k = true) {l_read_places : Nat} (c_read_places : DFn X.prog X.w X.K X.mg X.base "read_places" ps_read_places l_read_places S_read_places) (j_read_places : Nat.ble l_read_places k = true) {l__law_alike : Nat} (c__law_alike : DFn X.prog X.w X.K X.mg X.base "_law_alike" ps__law_alike l__law_alike S__law_alike) (j__law_alike : Nat.ble l__law_alike k = true) {l_place_word : Nat} (c_place_word : DFn X.prog X.w X.K X.mg X.base "place_word" ps_place_word l_place_word S_place_word) (j_place_word : Nat.ble l_place_word k = true) {l_read_cut : Nat} (c_read_cut : DFn X.prog X.w X.K X.mg X.base "read_cut" ps_read_cut l_read_cut S_read_cut) (j_read_cut : Nat.ble l_read_cut k = true) {l_cut_word : Nat} (c_cut_word : DFn X.prog X.w X.K X.mg X.base "cut_word" ps_cut_word l_cut_word S_cut_word) (j_cut_word : Nat.ble l_cut_word k = true) {l__law_take : Nat} (c__law_take : DFn X.prog X.w X.K X.mg X.base "_law_take" ps__law_take l__law_take S__law_take) (j__law_take : Nat.ble l__law_take k = true) {l__law_word_right : Nat} (c__law_word_right : DFn X.prog X.w X.K X.mg X.base "_law_word_right" ps__law_word_right l__law_word_right S__law_word_right) (j__law_word_right : Nat.ble l__law_word_right k = true) {l__law_near : Nat} (c__law_near : DFn X.prog X.w X.K X.mg X.base "_law_near" ps__law_near l__law_near S__law_near) (j__law_near : Nat.ble l__law_near k = true) (m_range : X.mg "range" = none) (m_str : X.mg "str" = none) : DSs X ((defBody st_law).drop 1) (t_law) :=
    (dss_cons (ds_asg rfl rfl tg_name (de_add (de_lst (da_cons pl_con de_str (da_cons pl_con de_str (da_cons pl_con de_str (da_cons pl_con de_str (da_cons pl_con de_str (da_cons pl_con de_str (da_cons pl_con de_str (da_cons pl_con de_str (da_cons pl_con de_str da_nil)))))))))) (h.comp (own := [("k", 9)]) (sl := [9]) (by decide +kernel) (by decide +kernel) pl_call (h.rng1 (by decide +kernel) m_range pl_con de_int) (fun _ h1 e0_1 e0_2 e0_3 e0_4 e0_5 => ⟨(h1.tg (by decide +kernel)), dts_nil, (h1.call (c__law_near.on e0_1 e0_2 e0_3 e0_4 e0_5) j__law_near (by decide +kernel) (pls_cons pl_name pls_nil) (da_cons pl_name (h1.var (i := 1) (by decide +kernel)) da_nil))⟩))) (h.tg (by decide +kernel)))
      (dss_cons (ds_if (h.tcmp .Eq pl_con (h.call c__law_take j__law_take (by decide +kernel) (pls_cons pl_name (pls_cons pl_con pls_nil)) (da_cons pl_name (h.var (i := 1) (by decide +kernel)) (da_cons pl_con de_int da_nil))) de_int) (dss_cons (ds_expr rfl (h.app ab_name (by decide +kernel) (pls_cons pl_bin pls_nil) (h.var (i := 2) (by decide +kernel)) (da_cons pl_bin (de_add (de_ix pl_call (de_lst (da_cons pl_con de_str (da_cons pl_con de_str (da_cons pl_con de_str (da_cons pl_con de_str da_nil))))) (h.call c__law_take j__law_take (by decide +kernel) (pls_cons pl_name (pls_cons pl_con pls_nil)) (da_cons pl_name (h.var (i := 1) (by decide +kernel)) (da_cons pl_con de_int da_nil)))) (de_mul (de_ix pl_call de_str (h.call c__law_take j__law_take (by decide +kernel) (pls_cons pl_name (pls_cons pl_con pls_nil)) (da_cons pl_name (h.var (i := 1) (by decide +kernel)) (da_cons pl_con de_int da_nil)))) de_int)) da_nil)))
      dss_nil) dss_nil)
      (dss_cons (h.for_ ho pl_name (di_row (h.var (i := 2) (by decide +kernel))) (h.tg (by decide +kernel)) (dss_cons (ds_if (dt_not (dt_tru tr_call (h.call c__law_word_right j__law_word_right (by decide +kernel) (pls_cons pl_name pls_nil) (da_cons pl_name (h.var (i := 3) (by decide +kernel)) da_nil)))) (dss_cons (ds_ret de_bl)
      dss_nil) dss_nil)
      dss_nil))
      (dss_cons (ds_asg rfl rfl tg_name (de_lst (da_cons pl_con de_int (da_cons pl_con de_int (da_cons pl_call (h.call c__law_take j__law_take (by decide +kernel) (pls_cons pl_name (pls_cons pl_con pls_nil)) (da_cons pl_name (h.var (i := 1) (by decide +kernel)) (da_cons pl_con de_int da_nil))) (da_cons pl_bin (de_add (de_mul (h.call c__law_take j__law_take (by decide +kernel) (pls_cons pl_name (pls_cons pl_con pls_nil)) (da_cons pl_name (h.var (i := 1) (by decide +kernel)) (da_cons pl_con de_int da_nil))) de_int) (h.call c__law_take j__law_take (by decide +kernel) (pls_cons pl_name (pls_cons pl_con pls_nil)) (da_cons pl_name (h.var (i := 1) (by decide +kernel)) (da_cons pl_con de_int da_nil)))) da_nil))))) (h.tg (by decide +kernel)))
      (dss_cons (h.for_ ho pl_name (di_row (h.var (i := 4) (by decide +kernel))) (h.tg (by decide +kernel)) (dss_cons (h.for_ ho pl_lst (di_row (de_lst (da_cons pl_tup (de_tup (da_cons pl_con de_str (da_cons pl_name (h.var (i := 5) (by decide +kernel)) da_nil))) (da_cons pl_tup (de_tup (da_cons pl_con de_str (da_cons pl_name (h.var (i := 5) (by decide +kernel)) da_nil))) da_nil)))) (h.tg (by decide +kernel)) (dss_cons (ds_asg rfl rfl tg_name (h.call c_cut_word j_cut_word (by decide +kernel) (pls_cons pl_name pls_nil) (da_cons pl_name (h.var (i := 6) (by decide +kernel)) da_nil)) (h.tg (by decide +kernel)))
      (dss_cons (ds_if (dt_not (dt_tru tr_call (h.call c__law_alike j__law_alike (by decide +kernel) (pls_cons pl_lst (pls_cons pl_lst pls_nil)) (da_cons pl_lst (de_lst (da_cons pl_name (h.var (i := 3) (by decide +kernel)) (da_cons pl_call (h.call c_read_cut j_read_cut (by decide +kernel) (pls_cons pl_name pls_nil) (da_cons pl_name (h.var (i := 3) (by decide +kernel)) da_nil)) da_nil))) (da_cons pl_lst (de_lst (da_cons pl_bin (de_add (de_ix pl_con (de_ix pl_con (h.var (i := 6) (by decide +kernel)) de_int) de_int) (h.str (by decide +kernel) m_str (pls_cons pl_name pls_nil) (da_cons pl_name (h.var (i := 5) (by decide +kernel)) da_nil))) (da_cons pl_name (h.var (i := 6) (by decide +kernel)) da_nil))) da_nil))))) (dss_cons (ds_ret de_bl)
      dss_nil) dss_nil)
      dss_nil)))
      dss_nil))
      (dss_cons (h.for_ ho pl_bin (di_row (de_add (de_lst (da_cons pl_con de_non da_nil)) (h.comp (own := [("k", 9)]) (sl := [9]) (by decide +kernel) (by decide +kernel) pl_call (h.rng1 (by decide +kernel) m_range pl_con de_int) (fun _ h1 e0_1 e0_2 e0_3 e0_4 e0_5 => ⟨(h1.tg (by decide +kernel)), dts_nil, (h1.var (i := 9) (by decide +kernel))⟩)))) (h.tg (by decide +kernel)) (dss_cons (ds_asg rfl rfl tg_name (h.call c_place_word j_place_word (by decide +kernel) (pls_cons pl_name pls_nil) (da_cons pl_name (h.var (i := 7) (by decide +kernel)) da_nil)) (h.tg (by decide +kernel)))
      (dss_cons (ds_asg rfl rfl tg_name de_str (h.tg (by decide +kernel)))
      (dss_cons (ds_if (h.tcmp .IsNot pl_con (h.var (i := 7) (by decide +kernel)) de_non) (dss_cons (ds_asg rfl rfl tg_name (h.str (by decide +kernel) m_str (pls_cons pl_name pls_nil) (da_cons pl_name (h.var (i := 7) (by decide +kernel)) da_nil)) (h.tg (by decide +kernel)))
      dss_nil) dss_nil)
      (dss_cons (ds_if (dt_not (dt_tru tr_call (h.call c__law_alike j__law_alike (by decide +kernel) (pls_cons pl_lst (pls_cons pl_lst pls_nil)) (da_cons pl_lst (de_lst (da_cons pl_name (h.var (i := 3) (by decide +kernel)) (da_cons pl_call (h.call c_read_places j_read_places (by decide +kernel) (pls_cons pl_lst pls_nil) (da_cons pl_lst (de_lst (da_cons pl_name (h.var (i := 3) (by decide +kernel)) da_nil)) da_nil)) da_nil))) (da_cons pl_lst (de_lst (da_cons pl_name (h.var (i := 8) (by decide +kernel)) (da_cons pl_lst (de_lst (da_cons pl_name (h.var (i := 7) (by decide +kernel)) da_nil)) da_nil))) da_nil))))) (dss_cons (ds_ret de_bl)
      dss_nil) dss_nil)
      dss_nil)))))
      (dss_cons (ds_if (DW.dt (dw_or (dt_not (dt_tru tr_call (h.call c__law_places_right j__law_places_right (by decide +kernel) (pls_cons pl_lst pls_nil) (da_cons pl_lst (de_lst da_nil) da_nil)))) (dw_or1 (dt_not (dt_tru tr_call (h.call c__law_places_right j__law_places_right (by decide +kernel) (pls_cons pl_sub pls_nil) (da_cons pl_sub (de_sl (h.var (i := 2) (by decide +kernel)) do_no (do_so de_int)) da_nil))))))) (dss_cons (ds_ret de_bl)
      dss_nil) dss_nil)
      (dss_cons (h.for_ ho pl_call (h.rng1 (by decide +kernel) m_range pl_con de_int) (h.tg (by decide +kernel)) (dss_cons (ds_if (DW.dt (dw_or (dt_not (dt_tru tr_call (h.call c__law_places_right j__law_places_right (by decide +kernel) (pls_cons pl_call pls_nil) (da_cons pl_call (h.call c__law_words j__law_words (by decide +kernel) (pls_cons pl_name pls_nil) (da_cons pl_name (h.var (i := 1) (by decide +kernel)) da_nil)) da_nil)))) (dw_or1 (dt_not (dt_tru tr_call (h.call c__law_line_right j__law_line_right (by decide +kernel) (pls_cons pl_call pls_nil) (da_cons pl_call (h.call c__law_line j__law_line (by decide +kernel) (pls_cons pl_name pls_nil) (da_cons pl_name (h.var (i := 1) (by decide +kernel)) da_nil)) da_nil))))))) (dss_cons (ds_ret de_bl)
      dss_nil) dss_nil)
      dss_nil))
      (dss_cons (ds_ret (de_and (h.call c__law_line_right j__law_line_right (by decide +kernel) (pls_cons pl_con pls_nil) (da_cons pl_con de_str da_nil)) (de_and (h.call c__law_line_right j__law_line_right (by decide +kernel) (pls_cons pl_con pls_nil) (da_cons pl_con de_str da_nil)) (de_one (h.call c__law_line_right j__law_line_right (by decide +kernel) (pls_cons pl_bin pls_nil) (da_cons pl_bin (de_add (de_add (de_ix pl_con (h.var (i := 2) (by decide +kernel)) de_int) de_str) (de_ix pl_con (h.var (i := 2) (by decide +kernel)) de_int)) da_nil))))))
      dss_nil)))))))))
end Lk27

namespace Lk27
open PySem DL
theorem szl {n : Nat} (h : n ≤ 16777216) : n ≤ sizeLine := by rw [sizeLine_eq]; exact h
theorem dig_in (c : Nat) : decide (c ∈ [48, 49, 50, 51, 52, 53, 54, 55, 56, 57]) = isDig c := by
  unfold isDig
  rw [Bool.eq_iff_iff, Bool.and_eq_true, decide_eq_true_eq, decide_eq_true_eq, decide_eq_true_eq]
  simp only [List.mem_cons, List.not_mem_nil, or_false]
  omega
theorem p_read_number : ∀ ws k kx, ws.length = 1 → S_read_number ws k kx → t_read_number (retE k) (fun x _ => kx x) (startE N_read_number ws) := by
  rintro ws k kx - ⟨s, rfl, hs, hk⟩
  rw [se_read_number]
  have hl : s.length ≤ sizeLine := szl (by omega)
  have hn : rnum s = none → t_read_number_3_0 (retE k) (fun x _ => kx x) [some (.d (.str s)), none] := fun h => by
    rw [h] at hk
    simp only [t_read_number_3_0, dSeq, dNext, dIf, dOrT, dAndT, dNotT, dBl, kBl, dTru, kTru, DL.truD, dOp, dCl, s1, s2, dCons, dNil, dVar, dMov, dC, kLenN, peek, lenW, noDict, lenD, sCmp, sOrd, sEq, kEq, sIn, sIsN, nonW, sInt, sAdd, sMul, sRows, rowD, flat, dsOf, seqW, dRet, dRetN, dDrop, dBrk, dCnt, dAsg, gN, gTp, gsCons, gsNil, DL.gSub, setW, useW, useWs, useD, nosto, nostos, fz, fzs, dCall, dCall0, argsD, argD, dLst, dTup, dIte, dAnd, dOr, dNot, dNeg, dBm, isTy, mApp, sIx, kItem, rowOf, dSl, kSl, dNo, dSo, kInt, kStr, kRepr, kListOf, kIsi, tyN, dFor, dRow, dRng1, dRng2, dComp, wipeE, dYes, dJoin, dJs, dFmt, kFmt, pkS, kI2, kAbs, okq, eqv, okqs, eqvs, kCat, dsOf_map, nostos_d, fzs_d, List.getElem?_cons_zero, List.getElem?_cons_succ, List.set_cons_zero, List.set_cons_succ, List.length_cons, List.length_nil, Option.bind_some, Option.map_some, if_true, if_false, Bool.false_eq_true, decide_eq_true_eq, true_and, List.length_map, retE]
    exact ⟨_, rfl, hk⟩
  simp only [t_read_number, t_read_number_0_0, dSeq, dNext, dIf, dOrT, dAndT, dNotT, dBl, kBl, dTru, kTru, DL.truD, dOp, dCl, s1, s2, dCons, dNil, dVar, dMov, dC, kLenN, peek, lenW, noDict, lenD, sCmp, sOrd, sEq, kEq, sIn, sIsN, nonW, sInt, sAdd, sMul, sRows, rowD, flat, dsOf, seqW, dRet, dRetN, dDrop, dBrk, dCnt, dAsg, gN, gTp, gsCons, gsNil, DL.gSub, setW, useW, useWs, useD, nosto, nostos, fz, fzs, dCall, dCall0, argsD, argD, dLst, dTup, dIte, dAnd, dOr, dNot, dNeg, dBm, isTy, mApp, sIx, kItem, rowOf, dSl, kSl, dNo, dSo, kInt, kStr, kRepr, kListOf, kIsi, tyN, dFor, dRow, dRng1, dRng2, dComp, wipeE, dYes, dJoin, dJs, dFmt, kFmt, pkS, kI2, kAbs, okq, eqv, okqs, eqvs, kCat, dsOf_map, nostos_d, fzs_d, List.getElem?_cons_zero, List.getElem?_cons_succ, List.set_cons_zero, List.set_cons_succ, List.length_cons, List.length_nil, Option.bind_some, Option.map_some, if_true, if_false, Bool.false_eq_true, decide_eq_true_eq, true_and, List.length_map]
  refine ⟨hl, ?_⟩
  split
  · exact hn (by unfold rnum; rw [if_pos (by omega)])
  rename_i h1
  refine ⟨hl, ?_⟩
  split
  · exact hn (by unfold rnum; rw [if_pos (by omega)])
  rename_i h2
  have h0 : ¬ (s.length < 1 ∨ 9 < s.length) := by omega
  unfold rnum at hk hn
  rw [if_neg h0] at hk hn
  simp only [t_read_number_0_1, dSeq, dNext, dIf, dOrT, dAndT, dNotT, dBl, kBl, dTru, kTru, DL.truD, dOp, dCl, s1, s2, dCons, dNil, dVar, dMov, dC, kLenN, peek, lenW, noDict, lenD, sCmp, sOrd, sEq, kEq, sIn, sIsN, nonW, sInt, sAdd, sMul, sRows, rowD, flat, dsOf, seqW, dRet, dRetN, dDrop, dBrk, dCnt, dAsg, gN, gTp, gsCons, gsNil, DL.gSub, setW, useW, useWs, useD, nosto, nostos, fz, fzs, dCall, dCall0, argsD, argD, dLst, dTup, dIte, dAnd, dOr, dNot, dNeg, dBm, isTy, mApp, sIx, kItem, rowOf, dSl, kSl, dNo, dSo, kInt, kStr, kRepr, kListOf, kIsi, tyN, dFor, dRow, dRng1, dRng2, dComp, wipeE, dYes, dJoin, dJs, dFmt, kFmt, pkS, kI2, kAbs, okq, eqv, okqs, eqvs, kCat, dsOf_map, nostos_d, fzs_d, List.getElem?_cons_zero, List.getElem?_cons_succ, List.set_cons_zero, List.set_cons_succ, List.length_cons, List.length_nil, Option.bind_some, Option.map_some, if_true, if_false, Bool.false_eq_true, decide_eq_true_eq, true_and, List.length_map]
  refine compL_fun (fun w => match w with | .d (.str [c]) => .d (.bl (isDig c)) | w => w) (fun w hw acc K hK ha => ?_) (by rw [List.length_nil, List.length_map]; omega) ?_
  · obtain ⟨c, _, rfl⟩ := List.mem_map.mp hw
    simp only [compStep, dSeq, dNext, dIf, dOrT, dAndT, dNotT, dBl, kBl, dTru, kTru, DL.truD, dOp, dCl, s1, s2, dCons, dNil, dVar, dMov, dC, kLenN, peek, lenW, noDict, lenD, sCmp, sOrd, sEq, kEq, sIn, sIsN, nonW, sInt, sAdd, sMul, sRows, rowD, flat, dsOf, seqW, dRet, dRetN, dDrop, dBrk, dCnt, dAsg, gN, gTp, gsCons, gsNil, DL.gSub, setW, useW, useWs, useD, nosto, nostos, fz, fzs, dCall, dCall0, argsD, argD, dLst, dTup, dIte, dAnd, dOr, dNot, dNeg, dBm, isTy, mApp, sIx, kItem, rowOf, dSl, kSl, dNo, dSo, kInt, kStr, kRepr, kListOf, kIsi, tyN, dFor, dRow, dRng1, dRng2, dComp, wipeE, dYes, dJoin, dJs, dFmt, kFmt, pkS, kI2, kAbs, okq, eqv, okqs, eqvs, kCat, dsOf_map, nostos_d, fzs_d, List.getElem?_cons_zero, List.getElem?_cons_succ, List.set_cons_zero, List.set_cons_succ, List.length_cons, List.length_nil, Option.bind_some, Option.map_some, if_true, if_false, Bool.false_eq_true, decide_eq_true_eq, true_and, List.length_map, Bool.false_bne, dig_in]
    exact ⟨by decide, ha, hK⟩
  rw [List.nil_append, List.map_map]
  refine kBls_map (p := isDig) ?_
  have e : ∀ l : List Nat, (l.map isDig).all id = l.all isDig := fun l => by rw [List.all_map]; rfl
  simp only [dSeq, dNext, dIf, dOrT, dAndT, dNotT, dBl, kBl, dTru, kTru, DL.truD, dOp, dCl, s1, s2, dCons, dNil, dVar, dMov, dC, kLenN, peek, lenW, noDict, lenD, sCmp, sOrd, sEq, kEq, sIn, sIsN, nonW, sInt, sAdd, sMul, sRows, rowD, flat, dsOf, seqW, dRet, dRetN, dDrop, dBrk, dCnt, dAsg, gN, gTp, gsCons, gsNil, DL.gSub, setW, useW, useWs, useD, nosto, nostos, fz, fzs, dCall, dCall0, argsD, argD, dLst, dTup, dIte, dAnd, dOr, dNot, dNeg, dBm, isTy, mApp, sIx, kItem, rowOf, dSl, kSl, dNo, dSo, kInt, kStr, kRepr, kListOf, kIsi, tyN, dFor, dRow, dRng1, dRng2, dComp, wipeE, dYes, dJoin, dJs, dFmt, kFmt, pkS, kI2, kAbs, okq, eqv, okqs, eqvs, kCat, dsOf_map, nostos_d, fzs_d, List.getElem?_cons_zero, List.getElem?_cons_succ, List.set_cons_zero, List.set_cons_succ, List.length_cons, List.length_nil, Option.bind_some, Option.map_some, if_true, if_false, Bool.false_eq_true, decide_eq_true_eq, true_and, List.length_map, e]
  refine ⟨Nat.zero_le _, ?_⟩
  split
  · rename_i h3
    have h3 : s.all isDig = false := by simpa using h3
    exact hn (by rw [if_pos h3])
  rename_i h3
  have h3 : s.all isDig = true := by simpa using h3
  rw [if_neg (by rw [h3]; decide)] at hk hn
  have fin : ¬ (1 < s.length ∧ s[0]? = some 48) → t_read_number_0_3 (retE k) (fun x _ => kx x) [some (.d (.str s)), none] := fun h4 => by
    rw [if_neg h4] at hk
    have iv : intText? ⟨s.toArray⟩ = some (NumText.digitsVal s : Int) := SX.int_S h3 (fun e => by rw [e] at h0; exact h0 (.inl (Nat.succ_pos _))) (by omega)
    simp only [t_read_number_0_3, dSeq, dNext, dIf, dOrT, dAndT, dNotT, dBl, kBl, dTru, kTru, DL.truD, dOp, dCl, s1, s2, dCons, dNil, dVar, dMov, dC, kLenN, peek, lenW, noDict, lenD, sCmp, sOrd, sEq, kEq, sIn, sIsN, nonW, sInt, sAdd, sMul, sRows, rowD, flat, dsOf, seqW, dRet, dRetN, dDrop, dBrk, dCnt, dAsg, gN, gTp, gsCons, gsNil, DL.gSub, setW, useW, useWs, useD, nosto, nostos, fz, fzs, dCall, dCall0, argsD, argD, dLst, dTup, dIte, dAnd, dOr, dNot, dNeg, dBm, isTy, mApp, sIx, kItem, rowOf, dSl, kSl, dNo, dSo, kInt, kStr, kRepr, kListOf, kIsi, tyN, dFor, dRow, dRng1, dRng2, dComp, wipeE, dYes, dJoin, dJs, dFmt, kFmt, pkS, kI2, kAbs, okq, eqv, okqs, eqvs, kCat, dsOf_map, nostos_d, fzs_d, List.getElem?_cons_zero, List.getElem?_cons_succ, List.set_cons_zero, List.set_cons_succ, List.length_cons, List.length_nil, Option.bind_some, Option.map_some, if_true, if_false, Bool.false_eq_true, decide_eq_true_eq, true_and, List.length_map, iv, retE]
    exact ⟨by omega, _, rfl, hk⟩
  simp only [t_read_number_0_2, dSeq, dNext, dIf, dOrT, dAndT, dNotT, dBl, kBl, dTru, kTru, DL.truD, dOp, dCl, s1, s2, dCons, dNil, dVar, dMov, dC, kLenN, peek, lenW, noDict, lenD, sCmp, sOrd, sEq, kEq, sIn, sIsN, nonW, sInt, sAdd, sMul, sRows, rowD, flat, dsOf, seqW, dRet, dRetN, dDrop, dBrk, dCnt, dAsg, gN, gTp, gsCons, gsNil, DL.gSub, setW, useW, useWs, useD, nosto, nostos, fz, fzs, dCall, dCall0, argsD, argD, dLst, dTup, dIte, dAnd, dOr, dNot, dNeg, dBm, isTy, mApp, sIx, kItem, rowOf, dSl, kSl, dNo, dSo, kInt, kStr, kRepr, kListOf, kIsi, tyN, dFor, dRow, dRng1, dRng2, dComp, wipeE, dYes, dJoin, dJs, dFmt, kFmt, pkS, kI2, kAbs, okq, eqv, okqs, eqvs, kCat, dsOf_map, nostos_d, fzs_d, List.getElem?_cons_zero, List.getElem?_cons_succ, List.set_cons_zero, List.set_cons_succ, List.length_cons, List.length_nil, Option.bind_some, Option.map_some, if_true, if_false, Bool.false_eq_true, decide_eq_true_eq, true_and, List.length_map]
  refine ⟨hl, ?_⟩
  split
  · rename_i h4
    cases s with
    | nil => simp at h4
    | cons c t =>
      have ea : L2.atI (c :: t) 0 = some c := L2.atI_nat (j := 0) rfl
      simp only [ea]
      refine ⟨hl, ?_⟩
      split
      · rename_i h5
        have h5 : c = 48 := by simpa using h5
        exact hn (by rw [if_pos ⟨by omega, by rw [h5]; rfl⟩])
      · rename_i h5
        exact fin fun h => h5 (by have := h.2; simp at this; simp [this])
  · rename_i h4
    exact fin fun h => h4 (by omega)
theorem sz9 {n : Nat} (h : n < 10 ^ 9) : (n : Int).natAbs.log2 < 1920 := by
  rw [Int.natAbs_natCast]
  rcases Nat.eq_zero_or_pos n with h0 | h0
  · rw [h0]; decide
  · refine (Nat.log2_lt (Nat.ne_of_gt h0)).mpr (Nat.lt_of_lt_of_le h ?_)
    calc 10 ^ 9 ≤ 2 ^ 30 := by decide
      _ ≤ 2 ^ 1920 := Nat.pow_le_pow_right (by decide) (by decide)
theorem showI_nat (n : Nat) : showI (n : Int) = TL.numL n := by
  have h := TL.tl_num n
  rw [showI_str] at h
  simpa [TL.tl] using h
theorem numL9 {n : Nat} (h : n < 10 ^ 9) : (TL.numL n).length ≤ 9 := TL.numL_len (by decide) h
theorem p_cut_word : ∀ ws k kx, ws.length = 1 → S_cut_word ws k kx → t_cut_word (retE k) (fun x _ => kx x) (startE N_cut_word ws) := by
  rintro ws k kx - ⟨w, n, rfl, hn, hw, hk⟩
  rw [se_cut_word]
  have h9 := numL9 hn
  simp only [t_cut_word, t_cut_word_0_0, dSeq, dNext, dIf, dOrT, dAndT, dNotT, dBl, kBl, dTru, kTru, DL.truD, dOp, dCl, s1, s2, dCons, dNil, dVar, dMov, dC, kLenN, peek, lenW, noDict, lenD, sCmp, sOrd, sEq, kEq, sIn, sIsN, nonW, sInt, sAdd, sMul, sRows, rowD, flat, dsOf, seqW, dRet, dRetN, dDrop, dBrk, dCnt, dAsg, gN, gTp, gsCons, gsNil, DL.gSub, setW, useW, useWs, useD, nosto, nostos, fz, fzs, dCall, dCall0, argsD, argD, dLst, dTup, dIte, dAnd, dOr, dNot, dNeg, dBm, isTy, mApp, sIx, kItem, rowOf, dSl, kSl, dNo, dSo, kInt, kStr, kRepr, kListOf, kIsi, tyN, dFor, dRow, dRng1, dRng2, dComp, wipeE, dYes, dJoin, dJs, dFmt, kFmt, pkS, kI2, kAbs, okq, eqv, okqs, eqvs, kCat, dsOf_map, nostos_d, fzs_d, List.getElem?_cons_zero, List.getElem?_cons_succ, List.set_cons_zero, List.set_cons_succ, List.length_cons, List.length_nil, Option.bind_some, Option.map_some, if_true, if_false, Bool.false_eq_true, decide_eq_true_eq, true_and, List.length_map, List.map_cons, List.map_nil]
  refine ⟨by decide, by decide, ?_⟩
  simp only [t_cut_word_0_1, dSeq, dNext, dIf, dOrT, dAndT, dNotT, dBl, kBl, dTru, kTru, DL.truD, dOp, dCl, s1, s2, dCons, dNil, dVar, dMov, dC, kLenN, peek, lenW, noDict, lenD, sCmp, sOrd, sEq, kEq, sIn, sIsN, nonW, sInt, sAdd, sMul, sRows, rowD, flat, dsOf, seqW, dRet, dRetN, dDrop, dBrk, dCnt, dAsg, gN, gTp, gsCons, gsNil, DL.gSub, setW, useW, useWs, useD, nosto, nostos, fz, fzs, dCall, dCall0, argsD, argD, dLst, dTup, dIte, dAnd, dOr, dNot, dNeg, dBm, isTy, mApp, sIx, kItem, rowOf, dSl, kSl, dNo, dSo, kInt, kStr, kRepr, kListOf, kIsi, tyN, dFor, dRow, dRng1, dRng2, dComp, wipeE, dYes, dJoin, dJs, dFmt, kFmt, pkS, kI2, kAbs, okq, eqv, okqs, eqvs, kCat, dsOf_map, nostos_d, fzs_d, List.getElem?_cons_zero, List.getElem?_cons_succ, List.set_cons_zero, List.set_cons_succ, List.length_cons, List.length_nil, Option.bind_some, Option.map_some, if_true, if_false, Bool.false_eq_true, decide_eq_true_eq, true_and, List.length_map]
  rcases hw with rfl | rfl
  · rw [if_pos (by decide)] at hk ⊢
    simp only [t_cut_word_1_0, dSeq, dNext, dIf, dOrT, dAndT, dNotT, dBl, kBl, dTru, kTru, DL.truD, dOp, dCl, s1, s2, dCons, dNil, dVar, dMov, dC, kLenN, peek, lenW, noDict, lenD, sCmp, sOrd, sEq, kEq, sIn, sIsN, nonW, sInt, sAdd, sMul, sRows, rowD, flat, dsOf, seqW, dRet, dRetN, dDrop, dBrk, dCnt, dAsg, gN, gTp, gsCons, gsNil, DL.gSub, setW, useW, useWs, useD, nosto, nostos, fz, fzs, dCall, dCall0, argsD, argD, dLst, dTup, dIte, dAnd, dOr, dNot, dNeg, dBm, isTy, mApp, sIx, kItem, rowOf, dSl, kSl, dNo, dSo, kInt, kStr, kRepr, kListOf, kIsi, tyN, dFor, dRow, dRng1, dRng2, dComp, wipeE, dYes, dJoin, dJs, dFmt, kFmt, pkS, kI2, kAbs, okq, eqv, okqs, eqvs, kCat, dsOf_map, nostos_d, fzs_d, List.getElem?_cons_zero, List.getElem?_cons_succ, List.set_cons_zero, List.set_cons_succ, List.length_cons, List.length_nil, Option.bind_some, Option.map_some, if_true, if_false, Bool.false_eq_true, decide_eq_true_eq, true_and, List.length_map, retE, showI_nat]
    exact ⟨szl (by decide), sz9 hn, szl (by simp; omega), _, rfl, hk⟩
  · rw [if_neg (by decide)] at hk ⊢
    simp only [t_cut_word_0_2, dSeq, dNext, dIf, dOrT, dAndT, dNotT, dBl, kBl, dTru, kTru, DL.truD, dOp, dCl, s1, s2, dCons, dNil, dVar, dMov, dC, kLenN, peek, lenW, noDict, lenD, sCmp, sOrd, sEq, kEq, sIn, sIsN, nonW, sInt, sAdd, sMul, sRows, rowD, flat, dsOf, seqW, dRet, dRetN, dDrop, dBrk, dCnt, dAsg, gN, gTp, gsCons, gsNil, DL.gSub, setW, useW, useWs, useD, nosto, nostos, fz, fzs, dCall, dCall0, argsD, argD, dLst, dTup, dIte, dAnd, dOr, dNot, dNeg, dBm, isTy, mApp, sIx, kItem, rowOf, dSl, kSl, dNo, dSo, kInt, kStr, kRepr, kListOf, kIsi, tyN, dFor, dRow, dRng1, dRng2, dComp, wipeE, dYes, dJoin, dJs, dFmt, kFmt, pkS, kI2, kAbs, okq, eqv, okqs, eqvs, kCat, dsOf_map, nostos_d, fzs_d, List.getElem?_cons_zero, List.getElem?_cons_succ, List.set_cons_zero, List.set_cons_succ, List.length_cons, List.length_nil, Option.bind_some, Option.map_some, if_true, if_false, Bool.false_eq_true, decide_eq_true_eq, true_and, List.length_map, retE, showI_nat]
    exact ⟨szl (by decide), sz9 hn, szl (by simp; omega), _, rfl, hk⟩
theorem rnum_nil : rnum [] = none := rfl
theorem p_read_cut : ∀ ws k kx, ws.length = 1 → S_read_cut ws k kx → t_read_cut (retE k) (fun x _ => kx x) (startE N_read_cut ws) := by
  rintro ws k kx - ⟨s, rfl, hs, hk⟩
  rw [se_read_cut]
  have hl : s.length ≤ sizeLine := szl (by omega)
  have e1 : cutL s (some 1) none = s.drop 1 := by
    unfold cutL
    rw [show HT.sIx s.length 0 (some 1) = min 1 s.length from HT.sIx_nat _ _ 1, HT.sIx_none]
    rw [List.take_of_length_le (by rw [List.length_drop]; exact Nat.le_refl _)]
    cases s with
    | nil => rfl
    | cons c t => rw [Nat.min_eq_left (by simp)]
  simp only [t_read_cut, t_read_cut_0_0, dSeq, dNext, dIf, dOrT, dAndT, dNotT, dBl, kBl, dTru, kTru, DL.truD, dOp, dCl, s1, s2, dCons, dNil, dVar, dMov, dC, kLenN, peek, lenW, noDict, lenD, sCmp, sOrd, sEq, kEq, sIn, sIsN, nonW, sInt, sAdd, sMul, sRows, rowD, flat, dsOf, seqW, dRet, dRetN, dDrop, dBrk, dCnt, dAsg, gN, gTp, gsCons, gsNil, DL.gSub, setW, useW, useWs, useD, nosto, nostos, fz, fzs, dCall, dCall0, argsD, argD, dLst, dTup, dIte, dAnd, dOr, dNot, dNeg, dBm, isTy, mApp, sIx, kItem, rowOf, dSl, kSl, dNo, dSo, kInt, kStr, kRepr, kListOf, kIsi, tyN, dFor, dRow, dRng1, dRng2, dComp, wipeE, dYes, dJoin, dJs, dFmt, kFmt, pkS, kI2, kAbs, okq, eqv, okqs, eqvs, kCat, dsOf_map, nostos_d, fzs_d, List.getElem?_cons_zero, List.getElem?_cons_succ, List.set_cons_zero, List.set_cons_succ, List.length_cons, List.length_nil, Option.bind_some, Option.map_some, if_true, if_false, Bool.false_eq_true, decide_eq_true_eq, true_and, List.length_map, e1]
  refine ⟨hl, s.drop 1, rfl, by rw [List.length_drop]; omega, ?_⟩
  cases s with
  | nil =>
    rw [List.drop_nil, rnum_nil]
    simp only [dSeq, dNext, dIf, dOrT, dAndT, dNotT, dBl, kBl, dTru, kTru, DL.truD, dOp, dCl, s1, s2, dCons, dNil, dVar, dMov, dC, kLenN, peek, lenW, noDict, lenD, sCmp, sOrd, sEq, kEq, sIn, sIsN, nonW, sInt, sAdd, sMul, sRows, rowD, flat, dsOf, seqW, dRet, dRetN, dDrop, dBrk, dCnt, dAsg, gN, gTp, gsCons, gsNil, DL.gSub, setW, useW, useWs, useD, nosto, nostos, fz, fzs, dCall, dCall0, argsD, argD, dLst, dTup, dIte, dAnd, dOr, dNot, dNeg, dBm, isTy, mApp, sIx, kItem, rowOf, dSl, kSl, dNo, dSo, kInt, kStr, kRepr, kListOf, kIsi, tyN, dFor, dRow, dRng1, dRng2, dComp, wipeE, dYes, dJoin, dJs, dFmt, kFmt, pkS, kI2, kAbs, okq, eqv, okqs, eqvs, kCat, dsOf_map, nostos_d, fzs_d, List.getElem?_cons_zero, List.getElem?_cons_succ, List.set_cons_zero, List.set_cons_succ, List.length_cons, List.length_nil, Option.bind_some, Option.map_some, if_true, if_false, Bool.false_eq_true, decide_eq_true_eq, true_and, List.length_map, optI, clear, flatL, t_read_cut_0_1, t_read_cut_3_0, retE, Bool.false_bne]
    exact ⟨by decide, _, rfl, hk⟩
  | cons c t =>
    have ea : L2.atI (c :: t) 0 = some c := L2.atI_nat (j := 0) rfl
    rw [show (c :: t).drop 1 = t from rfl]
    have hk : k (cutW (match rnum t with | some n => if c = 114 then some (tRow, n) else if c = 99 then some (tCol, n) else none | none => none)) := hk
    cases hr : rnum t with
    | none =>
      rw [hr] at hk
      simp only [dSeq, dNext, dIf, dOrT, dAndT, dNotT, dBl, kBl, dTru, kTru, DL.truD, dOp, dCl, s1, s2, dCons, dNil, dVar, dMov, dC, kLenN, peek, lenW, noDict, lenD, sCmp, sOrd, sEq, kEq, sIn, sIsN, nonW, sInt, sAdd, sMul, sRows, rowD, flat, dsOf, seqW, dRet, dRetN, dDrop, dBrk, dCnt, dAsg, gN, gTp, gsCons, gsNil, DL.gSub, setW, useW, useWs, useD, nosto, nostos, fz, fzs, dCall, dCall0, argsD, argD, dLst, dTup, dIte, dAnd, dOr, dNot, dNeg, dBm, isTy, mApp, sIx, kItem, rowOf, dSl, kSl, dNo, dSo, kInt, kStr, kRepr, kListOf, kIsi, tyN, dFor, dRow, dRng1, dRng2, dComp, wipeE, dYes, dJoin, dJs, dFmt, kFmt, pkS, kI2, kAbs, okq, eqv, okqs, eqvs, kCat, dsOf_map, nostos_d, fzs_d, List.getElem?_cons_zero, List.getElem?_cons_succ, List.set_cons_zero, List.set_cons_succ, List.length_cons, List.length_nil, Option.bind_some, Option.map_some, if_true, if_false, Bool.false_eq_true, decide_eq_true_eq, true_and, List.length_map, optI, clear, flatL, t_read_cut_0_1, t_read_cut_3_0, retE, Bool.false_bne]
      exact ⟨by decide, _, rfl, hk⟩
    | some n =>
      rw [hr] at hk
      have hk : k (cutW (if c = 114 then some (tRow, n) else if c = 99 then some (tCol, n) else none)) := hk
      simp only [dSeq, dNext, dIf, dOrT, dAndT, dNotT, dBl, kBl, dTru, kTru, DL.truD, dOp, dCl, s1, s2, dCons, dNil, dVar, dMov, dC, kLenN, peek, lenW, noDict, lenD, sCmp, sOrd, sEq, kEq, sIn, sIsN, nonW, sInt, sAdd, sMul, sRows, rowD, flat, dsOf, seqW, dRet, dRetN, dDrop, dBrk, dCnt, dAsg, gN, gTp, gsCons, gsNil, DL.gSub, setW, useW, useWs, useD, nosto, nostos, fz, fzs, dCall, dCall0, argsD, argD, dLst, dTup, dIte, dAnd, dOr, dNot, dNeg, dBm, isTy, mApp, sIx, kItem, rowOf, dSl, kSl, dNo, dSo, kInt, kStr, kRepr, kListOf, kIsi, tyN, dFor, dRow, dRng1, dRng2, dComp, wipeE, dYes, dJoin, dJs, dFmt, kFmt, pkS, kI2, kAbs, okq, eqv, okqs, eqvs, kCat, dsOf_map, nostos_d, fzs_d, List.getElem?_cons_zero, List.getElem?_cons_succ, List.set_cons_zero, List.set_cons_succ, List.length_cons, List.length_nil, Option.bind_some, Option.map_some, if_true, if_false, Bool.false_eq_true, decide_eq_true_eq, true_and, List.length_map, optI, clear, flatL, t_read_cut_0_1, Bool.false_bne]
      refine ⟨by decide, ?_⟩
      simp only [t_read_cut_0_2, dSeq, dNext, dIf, dOrT, dAndT, dNotT, dBl, kBl, dTru, kTru, DL.truD, dOp, dCl, s1, s2, dCons, dNil, dVar, dMov, dC, kLenN, peek, lenW, noDict, lenD, sCmp, sOrd, sEq, kEq, sIn, sIsN, nonW, sInt, sAdd, sMul, sRows, rowD, flat, dsOf, seqW, dRet, dRetN, dDrop, dBrk, dCnt, dAsg, gN, gTp, gsCons, gsNil, DL.gSub, setW, useW, useWs, useD, nosto, nostos, fz, fzs, dCall, dCall0, argsD, argD, dLst, dTup, dIte, dAnd, dOr, dNot, dNeg, dBm, isTy, mApp, sIx, kItem, rowOf, dSl, kSl, dNo, dSo, kInt, kStr, kRepr, kListOf, kIsi, tyN, dFor, dRow, dRng1, dRng2, dComp, wipeE, dYes, dJoin, dJs, dFmt, kFmt, pkS, kI2, kAbs, okq, eqv, okqs, eqvs, kCat, dsOf_map, nostos_d, fzs_d, List.getElem?_cons_zero, List.getElem?_cons_succ, List.set_cons_zero, List.set_cons_succ, List.length_cons, List.length_nil, Option.bind_some, Option.map_some, if_true, if_false, Bool.false_eq_true, decide_eq_true_eq, true_and, List.length_map, ea, Bool.false_bne]
      refine ⟨hl, ?_⟩
      by_cases h1 : c = 114
      · subst h1
        rw [if_pos rfl] at hk
        rw [if_pos (by decide)]
        simp only [t_read_cut_2_0, dSeq, dNext, dIf, dOrT, dAndT, dNotT, dBl, kBl, dTru, kTru, DL.truD, dOp, dCl, s1, s2, dCons, dNil, dVar, dMov, dC, kLenN, peek, lenW, noDict, lenD, sCmp, sOrd, sEq, kEq, sIn, sIsN, nonW, sInt, sAdd, sMul, sRows, rowD, flat, dsOf, seqW, dRet, dRetN, dDrop, dBrk, dCnt, dAsg, gN, gTp, gsCons, gsNil, DL.gSub, setW, useW, useWs, useD, nosto, nostos, fz, fzs, dCall, dCall0, argsD, argD, dLst, dTup, dIte, dAnd, dOr, dNot, dNeg, dBm, isTy, mApp, sIx, kItem, rowOf, dSl, kSl, dNo, dSo, kInt, kStr, kRepr, kListOf, kIsi, tyN, dFor, dRow, dRng1, dRng2, dComp, wipeE, dYes, dJoin, dJs, dFmt, kFmt, pkS, kI2, kAbs, okq, eqv, okqs, eqvs, kCat, dsOf_map, nostos_d, fzs_d, List.getElem?_cons_zero, List.getElem?_cons_succ, List.set_cons_zero, List.set_cons_succ, List.length_cons, List.length_nil, Option.bind_some, Option.map_some, if_true, if_false, Bool.false_eq_true, decide_eq_true_eq, true_and, List.length_map, useWs, retE]
        exact ⟨szl (by decide), _, rfl, hk⟩
      · rw [if_neg h1] at hk
        rw [if_neg (by simpa using h1)]
        simp only [t_read_cut_0_3, dSeq, dNext, dIf, dOrT, dAndT, dNotT, dBl, kBl, dTru, kTru, DL.truD, dOp, dCl, s1, s2, dCons, dNil, dVar, dMov, dC, kLenN, peek, lenW, noDict, lenD, sCmp, sOrd, sEq, kEq, sIn, sIsN, nonW, sInt, sAdd, sMul, sRows, rowD, flat, dsOf, seqW, dRet, dRetN, dDrop, dBrk, dCnt, dAsg, gN, gTp, gsCons, gsNil, DL.gSub, setW, useW, useWs, useD, nosto, nostos, fz, fzs, dCall, dCall0, argsD, argD, dLst, dTup, dIte, dAnd, dOr, dNot, dNeg, dBm, isTy, mApp, sIx, kItem, rowOf, dSl, kSl, dNo, dSo, kInt, kStr, kRepr, kListOf, kIsi, tyN, dFor, dRow, dRng1, dRng2, dComp, wipeE, dYes, dJoin, dJs, dFmt, kFmt, pkS, kI2, kAbs, okq, eqv, okqs, eqvs, kCat, dsOf_map, nostos_d, fzs_d, List.getElem?_cons_zero, List.getElem?_cons_succ, List.set_cons_zero, List.set_cons_succ, List.length_cons, List.length_nil, Option.bind_some, Option.map_some, if_true, if_false, Bool.false_eq_true, decide_eq_true_eq, true_and, List.length_map, ea, Bool.false_bne]
        refine ⟨hl, ?_⟩
        by_cases h2 : c = 99
        · subst h2
          rw [if_pos rfl] at hk
          rw [if_pos (by decide)]
          simp only [t_read_cut_1_0, dSeq, dNext, dIf, dOrT, dAndT, dNotT, dBl, kBl, dTru, kTru, DL.truD, dOp, dCl, s1, s2, dCons, dNil, dVar, dMov, dC, kLenN, peek, lenW, noDict, lenD, sCmp, sOrd, sEq, kEq, sIn, sIsN, nonW, sInt, sAdd, sMul, sRows, rowD, flat, dsOf, seqW, dRet, dRetN, dDrop, dBrk, dCnt, dAsg, gN, gTp, gsCons, gsNil, DL.gSub, setW, useW, useWs, useD, nosto, nostos, fz, fzs, dCall, dCall0, argsD, argD, dLst, dTup, dIte, dAnd, dOr, dNot, dNeg, dBm, isTy, mApp, sIx, kItem, rowOf, dSl, kSl, dNo, dSo, kInt, kStr, kRepr, kListOf, kIsi, tyN, dFor, dRow, dRng1, dRng2, dComp, wipeE, dYes, dJoin, dJs, dFmt, kFmt, pkS, kI2, kAbs, okq, eqv, okqs, eqvs, kCat, dsOf_map, nostos_d, fzs_d, List.getElem?_cons_zero, List.getElem?_cons_succ, List.set_cons_zero, List.set_cons_succ, List.length_cons, List.length_nil, Option.bind_some, Option.map_some, if_true, if_false, Bool.false_eq_true, decide_eq_true_eq, true_and, List.length_map, useWs, retE]
          exact ⟨szl (by decide), _, rfl, hk⟩
        · rw [if_neg h2] at hk
          rw [if_neg (by simpa using h2)]
          simp only [t_read_cut_0_4, dSeq, dNext, dIf, dOrT, dAndT, dNotT, dBl, kBl, dTru, kTru, DL.truD, dOp, dCl, s1, s2, dCons, dNil, dVar, dMov, dC, kLenN, peek, lenW, noDict, lenD, sCmp, sOrd, sEq, kEq, sIn, sIsN, nonW, sInt, sAdd, sMul, sRows, rowD, flat, dsOf, seqW, dRet, dRetN, dDrop, dBrk, dCnt, dAsg, gN, gTp, gsCons, gsNil, DL.gSub, setW, useW, useWs, useD, nosto, nostos, fz, fzs, dCall, dCall0, argsD, argD, dLst, dTup, dIte, dAnd, dOr, dNot, dNeg, dBm, isTy, mApp, sIx, kItem, rowOf, dSl, kSl, dNo, dSo, kInt, kStr, kRepr, kListOf, kIsi, tyN, dFor, dRow, dRng1, dRng2, dComp, wipeE, dYes, dJoin, dJs, dFmt, kFmt, pkS, kI2, kAbs, okq, eqv, okqs, eqvs, kCat, dsOf_map, nostos_d, fzs_d, List.getElem?_cons_zero, List.getElem?_cons_succ, List.set_cons_zero, List.set_cons_succ, List.length_cons, List.length_nil, Option.bind_some, Option.map_some, if_true, if_false, Bool.false_eq_true, decide_eq_true_eq, true_and, List.length_map, retE]
          exact ⟨_, rfl, hk⟩
theorem p_place_word : ∀ ws k kx, ws.length = 1 → S_place_word ws k kx → t_place_word (retE k) (fun x _ => kx x) (startE N_place_word ws) := by
  rintro ws k kx - ⟨o, rfl, hn, hk⟩
  rw [se_place_word]
  cases o with
  | none =>
    simp only [t_place_word, t_place_word_0_0, t_place_word_1_0, dSeq, dNext, dIf, dOrT, dAndT, dNotT, dBl, kBl, dTru, kTru, DL.truD, dOp, dCl, s1, s2, dCons, dNil, dVar, dMov, dC, kLenN, peek, lenW, noDict, lenD, sCmp, sOrd, sEq, kEq, sIn, sIsN, nonW, sInt, sAdd, sMul, sRows, rowD, flat, dsOf, seqW, dRet, dRetN, dDrop, dBrk, dCnt, dAsg, gN, gTp, gsCons, gsNil, DL.gSub, setW, useW, useWs, useD, nosto, nostos, fz, fzs, dCall, dCall0, argsD, argD, dLst, dTup, dIte, dAnd, dOr, dNot, dNeg, dBm, isTy, mApp, sIx, kItem, rowOf, dSl, kSl, dNo, dSo, kInt, kStr, kRepr, kListOf, kIsi, tyN, dFor, dRow, dRng1, dRng2, dComp, wipeE, dYes, dJoin, dJs, dFmt, kFmt, pkS, kI2, kAbs, okq, eqv, okqs, eqvs, kCat, dsOf_map, nostos_d, fzs_d, List.getElem?_cons_zero, List.getElem?_cons_succ, List.set_cons_zero, List.set_cons_succ, List.length_cons, List.length_nil, Option.bind_some, Option.map_some, if_true, if_false, Bool.false_eq_true, decide_eq_true_eq, true_and, List.length_map, optI, Bool.false_bne, retE]
    exact ⟨_, rfl, hk⟩
  | some n =>
    simp only [t_place_word, t_place_word_0_0, t_place_word_0_1, dSeq, dNext, dIf, dOrT, dAndT, dNotT, dBl, kBl, dTru, kTru, DL.truD, dOp, dCl, s1, s2, dCons, dNil, dVar, dMov, dC, kLenN, peek, lenW, noDict, lenD, sCmp, sOrd, sEq, kEq, sIn, sIsN, nonW, sInt, sAdd, sMul, sRows, rowD, flat, dsOf, seqW, dRet, dRetN, dDrop, dBrk, dCnt, dAsg, gN, gTp, gsCons, gsNil, DL.gSub, setW, useW, useWs, useD, nosto, nostos, fz, fzs, dCall, dCall0, argsD, argD, dLst, dTup, dIte, dAnd, dOr, dNot, dNeg, dBm, isTy, mApp, sIx, kItem, rowOf, dSl, kSl, dNo, dSo, kInt, kStr, kRepr, kListOf, kIsi, tyN, dFor, dRow, dRng1, dRng2, dComp, wipeE, dYes, dJoin, dJs, dFmt, kFmt, pkS, kI2, kAbs, okq, eqv, okqs, eqvs, kCat, dsOf_map, nostos_d, fzs_d, List.getElem?_cons_zero, List.getElem?_cons_succ, List.set_cons_zero, List.set_cons_succ, List.length_cons, List.length_nil, Option.bind_some, Option.map_some, if_true, if_false, Bool.false_eq_true, decide_eq_true_eq, true_and, List.length_map, optI, Bool.false_bne, retE, showI_nat]
    exact ⟨sz9 (hn n rfl), _, rfl, hk⟩
theorem low_in (c : Nat) : decide (c ∈ [97, 98, 99, 100, 101, 102, 103, 104, 105, 106, 107, 108, 109, 110, 111, 112, 113, 114, 115, 116, 117, 118, 119, 120, 121, 122]) = isLow c := by
  unfold isLow
  rw [Bool.eq_iff_iff, Bool.and_eq_true, decide_eq_true_eq, decide_eq_true_eq, decide_eq_true_eq]
  simp only [List.mem_cons, List.not_mem_nil, or_false]
  omega
theorem p_is_name : ∀ ws k kx, ws.length = 1 → S_is_name ws k kx → t_is_name (retE k) (fun x _ => kx x) (startE N_is_name ws) := by
  rintro ws k kx - ⟨s, rfl, hs, hk⟩
  rw [se_is_name]
  have hl : s.length ≤ sizeLine := szl (by omega)
  have hn : named s = false → t_is_name_1_0 (retE k) (fun x _ => kx x) [some (.d (.str s)), none] := fun h => by
    rw [h] at hk
    simp only [t_is_name_1_0, dSeq, dNext, dIf, dOrT, dAndT, dNotT, dBl, kBl, dTru, kTru, DL.truD, dOp, dCl, s1, s2, dCons, dNil, dVar, dMov, dC, kLenN, peek, lenW, noDict, lenD, sCmp, sOrd, sEq, kEq, sIn, sIsN, nonW, sInt, sAdd, sMul, sRows, rowD, flat, dsOf, seqW, dRet, dRetN, dDrop, dBrk, dCnt, dAsg, gN, gTp, gsCons, gsNil, DL.gSub, setW, useW, useWs, useD, nosto, nostos, fz, fzs, dCall, dCall0, argsD, argD, dLst, dTup, dIte, dAnd, dOr, dNot, dNeg, dBm, isTy, mApp, sIx, kItem, rowOf, dSl, kSl, dNo, dSo, kInt, kStr, kRepr, kListOf, kIsi, tyN, dFor, dRow, dRng1, dRng2, dComp, wipeE, dYes, dJoin, dJs, dFmt, kFmt, pkS, kI2, kAbs, okq, eqv, okqs, eqvs, kCat, dsOf_map, nostos_d, fzs_d, List.getElem?_cons_zero, List.getElem?_cons_succ, List.set_cons_zero, List.set_cons_succ, List.length_cons, List.length_nil, Option.bind_some, Option.map_some, if_true, if_false, Bool.false_eq_true, decide_eq_true_eq, true_and, List.length_map, retE]
    exact ⟨_, rfl, hk⟩
  simp only [t_is_name, t_is_name_0_0, dSeq, dNext, dIf, dOrT, dAndT, dNotT, dBl, kBl, dTru, kTru, DL.truD, dOp, dCl, s1, s2, dCons, dNil, dVar, dMov, dC, kLenN, peek, lenW, noDict, lenD, sCmp, sOrd, sEq, kEq, sIn, sIsN, nonW, sInt, sAdd, sMul, sRows, rowD, flat, dsOf, seqW, dRet, dRetN, dDrop, dBrk, dCnt, dAsg, gN, gTp, gsCons, gsNil, DL.gSub, setW, useW, useWs, useD, nosto, nostos, fz, fzs, dCall, dCall0, argsD, argD, dLst, dTup, dIte, dAnd, dOr, dNot, dNeg, dBm, isTy, mApp, sIx, kItem, rowOf, dSl, kSl, dNo, dSo, kInt, kStr, kRepr, kListOf, kIsi, tyN, dFor, dRow, dRng1, dRng2, dComp, wipeE, dYes, dJoin, dJs, dFmt, kFmt, pkS, kI2, kAbs, okq, eqv, okqs, eqvs, kCat, dsOf_map, nostos_d, fzs_d, List.getElem?_cons_zero, List.getElem?_cons_succ, List.set_cons_zero, List.set_cons_succ, List.length_cons, List.length_nil, Option.bind_some, Option.map_some, if_true, if_false, Bool.false_eq_true, decide_eq_true_eq, true_and, List.length_map]
  refine ⟨hl, ?_⟩
  split
  · exact hn (by unfold named; rw [decide_eq_false (by omega)]; rfl)
  rename_i h1
  refine ⟨hl, ?_⟩
  split
  · exact hn (by unfold named; rw [decide_eq_false (p := s.length < 9) (by omega), Bool.and_false]; rfl)
  rename_i h2
  unfold named at hk
  rw [decide_eq_true (by omega), decide_eq_true (by omega)] at hk
  simp only [t_is_name_0_1, dSeq, dNext, dIf, dOrT, dAndT, dNotT, dBl, kBl, dTru, kTru, DL.truD, dOp, dCl, s1, s2, dCons, dNil, dVar, dMov, dC, kLenN, peek, lenW, noDict, lenD, sCmp, sOrd, sEq, kEq, sIn, sIsN, nonW, sInt, sAdd, sMul, sRows, rowD, flat, dsOf, seqW, dRet, dRetN, dDrop, dBrk, dCnt, dAsg, gN, gTp, gsCons, gsNil, DL.gSub, setW, useW, useWs, useD, nosto, nostos, fz, fzs, dCall, dCall0, argsD, argD, dLst, dTup, dIte, dAnd, dOr, dNot, dNeg, dBm, isTy, mApp, sIx, kItem, rowOf, dSl, kSl, dNo, dSo, kInt, kStr, kRepr, kListOf, kIsi, tyN, dFor, dRow, dRng1, dRng2, dComp, wipeE, dYes, dJoin, dJs, dFmt, kFmt, pkS, kI2, kAbs, okq, eqv, okqs, eqvs, kCat, dsOf_map, nostos_d, fzs_d, List.getElem?_cons_zero, List.getElem?_cons_succ, List.set_cons_zero, List.set_cons_succ, List.length_cons, List.length_nil, Option.bind_some, Option.map_some, if_true, if_false, Bool.false_eq_true, decide_eq_true_eq, true_and, List.length_map]
  refine compL_fun (fun w => match w with | .d (.str [c]) => .d (.bl (isLow c)) | w => w) (fun w hw acc K hK ha => ?_) (by rw [List.length_nil, List.length_map]; omega) ?_
  · obtain ⟨c, _, rfl⟩ := List.mem_map.mp hw
    simp only [compStep, dSeq, dNext, dIf, dOrT, dAndT, dNotT, dBl, kBl, dTru, kTru, DL.truD, dOp, dCl, s1, s2, dCons, dNil, dVar, dMov, dC, kLenN, peek, lenW, noDict, lenD, sCmp, sOrd, sEq, kEq, sIn, sIsN, nonW, sInt, sAdd, sMul, sRows, rowD, flat, dsOf, seqW, dRet, dRetN, dDrop, dBrk, dCnt, dAsg, gN, gTp, gsCons, gsNil, DL.gSub, setW, useW, useWs, useD, nosto, nostos, fz, fzs, dCall, dCall0, argsD, argD, dLst, dTup, dIte, dAnd, dOr, dNot, dNeg, dBm, isTy, mApp, sIx, kItem, rowOf, dSl, kSl, dNo, dSo, kInt, kStr, kRepr, kListOf, kIsi, tyN, dFor, dRow, dRng1, dRng2, dComp, wipeE, dYes, dJoin, dJs, dFmt, kFmt, pkS, kI2, kAbs, okq, eqv, okqs, eqvs, kCat, dsOf_map, nostos_d, fzs_d, List.getElem?_cons_zero, List.getElem?_cons_succ, List.set_cons_zero, List.set_cons_succ, List.length_cons, List.length_nil, Option.bind_some, Option.map_some, if_true, if_false, Bool.false_eq_true, decide_eq_true_eq, true_and, List.length_map, Bool.false_bne, low_in]
    exact ⟨by decide, ha, hK⟩
  rw [List.nil_append, List.map_map]
  refine kBls_map (p := isLow) ?_
  have e : ∀ l : List Nat, (l.map isLow).all id = l.all isLow := fun l => by rw [List.all_map]; rfl
  simp only [dSeq, dNext, dIf, dOrT, dAndT, dNotT, dBl, kBl, dTru, kTru, DL.truD, dOp, dCl, s1, s2, dCons, dNil, dVar, dMov, dC, kLenN, peek, lenW, noDict, lenD, sCmp, sOrd, sEq, kEq, sIn, sIsN, nonW, sInt, sAdd, sMul, sRows, rowD, flat, dsOf, seqW, dRet, dRetN, dDrop, dBrk, dCnt, dAsg, gN, gTp, gsCons, gsNil, DL.gSub, setW, useW, useWs, useD, nosto, nostos, fz, fzs, dCall, dCall0, argsD, argD, dLst, dTup, dIte, dAnd, dOr, dNot, dNeg, dBm, isTy, mApp, sIx, kItem, rowOf, dSl, kSl, dNo, dSo, kInt, kStr, kRepr, kListOf, kIsi, tyN, dFor, dRow, dRng1, dRng2, dComp, wipeE, dYes, dJoin, dJs, dFmt, kFmt, pkS, kI2, kAbs, okq, eqv, okqs, eqvs, kCat, dsOf_map, nostos_d, fzs_d, List.getElem?_cons_zero, List.getElem?_cons_succ, List.set_cons_zero, List.set_cons_succ, List.length_cons, List.length_nil, Option.bind_some, Option.map_some, if_true, if_false, Bool.false_eq_true, decide_eq_true_eq, true_and, List.length_map, e, retE]
  exact ⟨_, rfl, hk⟩
theorem p_split_line : ∀ ws k kx, ws.length = 1 → S_split_line ws k kx → t_split_line (retE k) (fun x _ => kx x) (startE N_split_line ws) := by
  rintro ws k kx - ⟨s, rfl, hs, hk⟩
  rw [se_split_line]
  have hl : s.length + 2 ≤ sizeLine := szl (by omega)
  unfold parts at hk
  simp only [t_split_line, t_split_line_0_0, dSeq, dNext, dIf, dOrT, dAndT, dNotT, dBl, kBl, dTru, kTru, DL.truD, dOp, dCl, s1, s2, dCons, dNil, dVar, dMov, dC, kLenN, peek, lenW, noDict, lenD, sCmp, sOrd, sEq, kEq, sIn, sIsN, nonW, sInt, sAdd, sMul, sRows, rowD, flat, dsOf, seqW, dRet, dRetN, dDrop, dBrk, dCnt, dAsg, gN, gTp, gsCons, gsNil, DL.gSub, setW, useW, useWs, useD, nosto, nostos, fz, fzs, dCall, dCall0, argsD, argD, dLst, dTup, dIte, dAnd, dOr, dNot, dNeg, dBm, isTy, mApp, sIx, kItem, rowOf, dSl, kSl, dNo, dSo, kInt, kStr, kRepr, kListOf, kIsi, tyN, dFor, dRow, dRng1, dRng2, dComp, wipeE, dYes, dJoin, dJs, dFmt, kFmt, pkS, kI2, kAbs, okq, eqv, okqs, eqvs, kCat, dsOf_map, nostos_d, fzs_d, List.getElem?_cons_zero, List.getElem?_cons_succ, List.set_cons_zero, List.set_cons_succ, List.length_cons, List.length_nil, Option.bind_some, Option.map_some, if_true, if_false, Bool.false_eq_true, decide_eq_true_eq, true_and, List.length_map, Bool.false_bne]
  by_cases h : s = []
  · subst h
    rw [if_pos rfl] at hk
    rw [if_pos (by decide)]
    simp only [t_split_line_1_0, dSeq, dNext, dIf, dOrT, dAndT, dNotT, dBl, kBl, dTru, kTru, DL.truD, dOp, dCl, s1, s2, dCons, dNil, dVar, dMov, dC, kLenN, peek, lenW, noDict, lenD, sCmp, sOrd, sEq, kEq, sIn, sIsN, nonW, sInt, sAdd, sMul, sRows, rowD, flat, dsOf, seqW, dRet, dRetN, dDrop, dBrk, dCnt, dAsg, gN, gTp, gsCons, gsNil, DL.gSub, setW, useW, useWs, useD, nosto, nostos, fz, fzs, dCall, dCall0, argsD, argD, dLst, dTup, dIte, dAnd, dOr, dNot, dNeg, dBm, isTy, mApp, sIx, kItem, rowOf, dSl, kSl, dNo, dSo, kInt, kStr, kRepr, kListOf, kIsi, tyN, dFor, dRow, dRng1, dRng2, dComp, wipeE, dYes, dJoin, dJs, dFmt, kFmt, pkS, kI2, kAbs, okq, eqv, okqs, eqvs, kCat, dsOf_map, nostos_d, fzs_d, List.getElem?_cons_zero, List.getElem?_cons_succ, List.set_cons_zero, List.set_cons_succ, List.length_cons, List.length_nil, Option.bind_some, Option.map_some, if_true, if_false, Bool.false_eq_true, decide_eq_true_eq, true_and, List.length_map, useWs, retE]
    exact ⟨Nat.zero_le _, _, rfl, hk⟩
  · rw [if_neg h] at hk
    rw [if_neg (by simpa using h)]
    simp only [t_split_line_0_1, dSeq, dNext, dIf, dOrT, dAndT, dNotT, dBl, kBl, dTru, kTru, DL.truD, dOp, dCl, s1, s2, dCons, dNil, dVar, dMov, dC, kLenN, peek, lenW, noDict, lenD, sCmp, sOrd, sEq, kEq, sIn, sIsN, nonW, sInt, sAdd, sMul, sRows, rowD, flat, dsOf, seqW, dRet, dRetN, dDrop, dBrk, dCnt, dAsg, gN, gTp, gsCons, gsNil, DL.gSub, setW, useW, useWs, useD, nosto, nostos, fz, fzs, dCall, dCall0, argsD, argD, dLst, dTup, dIte, dAnd, dOr, dNot, dNeg, dBm, isTy, mApp, sIx, kItem, rowOf, dSl, kSl, dNo, dSo, kInt, kStr, kRepr, kListOf, kIsi, tyN, dFor, dRow, dRng1, dRng2, dComp, wipeE, dYes, dJoin, dJs, dFmt, kFmt, pkS, kI2, kAbs, okq, eqv, okqs, eqvs, kCat, dsOf_map, nostos_d, fzs_d, List.getElem?_cons_zero, List.getElem?_cons_succ, List.set_cons_zero, List.set_cons_succ, List.length_cons, List.length_nil, Option.bind_some, Option.map_some, if_true, if_false, Bool.false_eq_true, decide_eq_true_eq, true_and, List.length_map, mSplit, retE]
    refine ⟨by decide, hl, _, rfl, ?_⟩
    rw [show Txt.split (toS s) (toS [32]) = (TL.spl [32] 0 [] s).map SX.S from SX.split_S (by decide) (by decide), List.map_map, List.map_map]
    exact hk
theorem int1 {c : Nat} (h : isDig c = true) : intText? ⟨#[c]⟩ = some ((c - 48 : Nat) : Int) := by
  have e := SX.int_S (a := [c]) (by show (isDig c && true) = true; rw [h]; rfl) (by simp) (by simp)
  have v : NumText.digitsVal [c] = c - 48 := by show 0 * 10 + (c - 48) = _; omega
  rwa [v] at e
theorem map_d {α : Type} (f : α → D) (l : List α) : (l.map f).map W.d = l.map fun x => W.d (f x) := by rw [List.map_map]; rfl
theorem p_read_places : ∀ ws k kx, ws.length = 1 → S_read_places ws k kx → t_read_places (retE k) (fun x _ => kx x) (startE N_read_places ws) := by
  rintro ws k kx - ⟨ss, rfl, hs, hl, hk⟩
  rw [se_read_places]
  simp only [t_read_places, t_read_places_0_0, dSeq, dNext, dIf, dOrT, dAndT, dNotT, dBl, kBl, dTru, kTru, DL.truD, dOp, dCl, s1, s2, dCons, dNil, dVar, dMov, dC, kLenN, peek, lenW, noDict, lenD, sCmp, sOrd, sEq, kEq, sIn, sIsN, nonW, sInt, sAdd, sMul, sRows, rowD, flat, dsOf, seqW, dRet, dRetN, dDrop, dBrk, dCnt, dAsg, gN, gTp, gsCons, gsNil, DL.gSub, setW, useW, useWs, useD, nosto, nostos, fz, fzs, dCall, dCall0, argsD, argD, dLst, dTup, dIte, dAnd, dOr, dNot, dNeg, dBm, isTy, mApp, sIx, kItem, rowOf, dSl, kSl, dNo, dSo, kInt, kStr, kRepr, kListOf, kIsi, tyN, dFor, dRow, dRng1, dRng2, dComp, wipeE, dYes, dJoin, dJs, dFmt, kFmt, pkS, kI2, kAbs, okq, eqv, okqs, eqvs, kCat, dsOf_map, nostos_d, fzs_d, List.getElem?_cons_zero, List.getElem?_cons_succ, List.set_cons_zero, List.set_cons_succ, List.length_cons, List.length_nil, Option.bind_some, Option.map_some, if_true, if_false, Bool.false_eq_true, decide_eq_true_eq, true_and, List.length_map, useWs]
  refine ⟨by decide, by decide, ?_⟩
  simp only [t_read_places_0_1, dSeq, dNext, dIf, dOrT, dAndT, dNotT, dBl, kBl, dTru, kTru, DL.truD, dOp, dCl, s1, s2, dCons, dNil, dVar, dMov, dC, kLenN, peek, lenW, noDict, lenD, sCmp, sOrd, sEq, kEq, sIn, sIsN, nonW, sInt, sAdd, sMul, sRows, rowD, flat, dsOf, seqW, dRet, dRetN, dDrop, dBrk, dCnt, dAsg, gN, gTp, gsCons, gsNil, DL.gSub, setW, useW, useWs, useD, nosto, nostos, fz, fzs, dCall, dCall0, argsD, argD, dLst, dTup, dIte, dAnd, dOr, dNot, dNeg, dBm, isTy, mApp, sIx, kItem, rowOf, dSl, kSl, dNo, dSo, kInt, kStr, kRepr, kListOf, kIsi, tyN, dFor, dRow, dRng1, dRng2, dComp, wipeE, dYes, dJoin, dJs, dFmt, kFmt, pkS, kI2, kAbs, okq, eqv, okqs, eqvs, kCat, dsOf_map, nostos_d, fzs_d, List.getElem?_cons_zero, List.getElem?_cons_succ, List.set_cons_zero, List.set_cons_succ, List.length_cons, List.length_nil, Option.bind_some, Option.map_some, if_true, if_false, Bool.false_eq_true, decide_eq_true_eq, true_and, List.length_map, map_d]
  refine forL_ind (fun r env => ∃ (ss' : List (List Nat)) (acc : List (Option Nat)) (o : Option W), r = ss'.map (fun s => W.d (.str s)) ∧ env = [some (.d (.lst (ss.map .str))), some (.ol (acc.map fun o => W.d (optI o))), o] ∧ acc.length + ss'.length ≤ 10000 ∧ (∀ s ∈ ss', s.length ≤ 10000) ∧ k (spotsW ((rspots ss').map (acc ++ ·)))) (fun w r env K h hK => ?_) ⟨ss, [], none, rfl, rfl, by simpa using hs, hl, ?_⟩ (fun e h => ?_)
  · obtain ⟨ss', acc, o, er, rfl, hn, hl', hk'⟩ := h
    cases ss' with
    | nil => cases er
    | cons s ss' =>
      cases er
      have ls := hl' s List.mem_cons_self
      have go : ∀ q, rspot s = some q → K [some (.d (.lst (ss.map .str))), some (.ol (acc.map (fun o => W.d (optI o)) ++ [W.d (optI q)])), some (.d (.str s))] := fun q hq => by
        refine hK _ ⟨ss', acc ++ [q], some (.d (.str s)), rfl, ?_, ?_, fun s m => hl' s (List.mem_cons_of_mem _ m), ?_⟩
        · rw [List.map_append]; rfl
        · simp only [List.length_append, List.length_cons, List.length_nil] at hn ⊢; omega
        · have e1 : rspots (s :: ss') = (rspots ss').map (q :: ·) := by
            show (match rspot s with | some o => (rspots ss').map (o :: ·) | none => none) = _
            rw [hq]
          rw [e1, Option.map_map] at hk'
          have e2 : ((acc ++ ·) ∘ (q :: ·)) = (((acc ++ [q]) ++ ·) : List (Option Nat) → List (Option Nat)) := funext fun x => by simp
          rwa [e2] at hk'
      simp only [dSeq, dNext, dIf, dOrT, dAndT, dNotT, dBl, kBl, dTru, kTru, DL.truD, dOp, dCl, s1, s2, dCons, dNil, dVar, dMov, dC, kLenN, peek, lenW, noDict, lenD, sCmp, sOrd, sEq, kEq, sIn, sIsN, nonW, sInt, sAdd, sMul, sRows, rowD, flat, dsOf, seqW, dRet, dRetN, dDrop, dBrk, dCnt, dAsg, gN, gTp, gsCons, gsNil, DL.gSub, setW, useW, useWs, useD, nosto, nostos, fz, fzs, dCall, dCall0, argsD, argD, dLst, dTup, dIte, dAnd, dOr, dNot, dNeg, dBm, isTy, mApp, sIx, kItem, rowOf, dSl, kSl, dNo, dSo, kInt, kStr, kRepr, kListOf, kIsi, tyN, dFor, dRow, dRng1, dRng2, dComp, wipeE, dYes, dJoin, dJs, dFmt, kFmt, pkS, kI2, kAbs, okq, eqv, okqs, eqvs, kCat, dsOf_map, nostos_d, fzs_d, List.getElem?_cons_zero, List.getElem?_cons_succ, List.set_cons_zero, List.set_cons_succ, List.length_cons, List.length_nil, Option.bind_some, Option.map_some, if_true, if_false, Bool.false_eq_true, decide_eq_true_eq, true_and, List.length_map, t_read_places_1_0, Bool.false_bne]
      refine ⟨by decide, ?_⟩
      by_cases h1 : s = [45]
      · subst h1
        rw [if_pos (by decide)]
        simp only [dSeq, dNext, dIf, dOrT, dAndT, dNotT, dBl, kBl, dTru, kTru, DL.truD, dOp, dCl, s1, s2, dCons, dNil, dVar, dMov, dC, kLenN, peek, lenW, noDict, lenD, sCmp, sOrd, sEq, kEq, sIn, sIsN, nonW, sInt, sAdd, sMul, sRows, rowD, flat, dsOf, seqW, dRet, dRetN, dDrop, dBrk, dCnt, dAsg, gN, gTp, gsCons, gsNil, DL.gSub, setW, useW, useWs, useD, nosto, nostos, fz, fzs, dCall, dCall0, argsD, argD, dLst, dTup, dIte, dAnd, dOr, dNot, dNeg, dBm, isTy, mApp, sIx, kItem, rowOf, dSl, kSl, dNo, dSo, kInt, kStr, kRepr, kListOf, kIsi, tyN, dFor, dRow, dRng1, dRng2, dComp, wipeE, dYes, dJoin, dJs, dFmt, kFmt, pkS, kI2, kAbs, okq, eqv, okqs, eqvs, kCat, dsOf_map, nostos_d, fzs_d, List.getElem?_cons_zero, List.getElem?_cons_succ, List.set_cons_zero, List.set_cons_succ, List.length_cons, List.length_nil, Option.bind_some, Option.map_some, if_true, if_false, Bool.false_eq_true, decide_eq_true_eq, true_and, List.length_map, t_read_places_2_0]
        exact ⟨szl (by simp only [List.length_map, List.length_cons] at hn ⊢; omega), go none (by unfold rspot; rw [if_pos rfl])⟩
      · rw [if_neg (by simpa using h1)]
        simp only [dSeq, dNext, dIf, dOrT, dAndT, dNotT, dBl, kBl, dTru, kTru, DL.truD, dOp, dCl, s1, s2, dCons, dNil, dVar, dMov, dC, kLenN, peek, lenW, noDict, lenD, sCmp, sOrd, sEq, kEq, sIn, sIsN, nonW, sInt, sAdd, sMul, sRows, rowD, flat, dsOf, seqW, dRet, dRetN, dDrop, dBrk, dCnt, dAsg, gN, gTp, gsCons, gsNil, DL.gSub, setW, useW, useWs, useD, nosto, nostos, fz, fzs, dCall, dCall0, argsD, argD, dLst, dTup, dIte, dAnd, dOr, dNot, dNeg, dBm, isTy, mApp, sIx, kItem, rowOf, dSl, kSl, dNo, dSo, kInt, kStr, kRepr, kListOf, kIsi, tyN, dFor, dRow, dRng1, dRng2, dComp, wipeE, dYes, dJoin, dJs, dFmt, kFmt, pkS, kI2, kAbs, okq, eqv, okqs, eqvs, kCat, dsOf_map, nostos_d, fzs_d, List.getElem?_cons_zero, List.getElem?_cons_succ, List.set_cons_zero, List.set_cons_succ, List.length_cons, List.length_nil, Option.bind_some, Option.map_some, if_true, if_false, Bool.false_eq_true, decide_eq_true_eq, true_and, List.length_map, t_read_places_3_0]
        refine ⟨szl (by omega), ?_⟩
        have bad : rspot s = none → t_read_places_5_0 { nx := K, rt := (retE k).rt, bk := fun e1 => t_read_places_0_2 (retE k) (fun x _ => kx x) e1, ct := K } (fun x _ => kx x) [some (.d (.lst (ss.map .str))), some (.ol (acc.map fun o => W.d (optI o))), some (.d (.str s))] := fun hq => by
          have e1 : rspots (s :: ss') = none := by
            show (match rspot s with | some o => (rspots ss').map (o :: ·) | none => none) = _
            rw [hq]
          rw [e1] at hk'
          simp only [dSeq, dNext, dIf, dOrT, dAndT, dNotT, dBl, kBl, dTru, kTru, DL.truD, dOp, dCl, s1, s2, dCons, dNil, dVar, dMov, dC, kLenN, peek, lenW, noDict, lenD, sCmp, sOrd, sEq, kEq, sIn, sIsN, nonW, sInt, sAdd, sMul, sRows, rowD, flat, dsOf, seqW, dRet, dRetN, dDrop, dBrk, dCnt, dAsg, gN, gTp, gsCons, gsNil, DL.gSub, setW, useW, useWs, useD, nosto, nostos, fz, fzs, dCall, dCall0, argsD, argD, dLst, dTup, dIte, dAnd, dOr, dNot, dNeg, dBm, isTy, mApp, sIx, kItem, rowOf, dSl, kSl, dNo, dSo, kInt, kStr, kRepr, kListOf, kIsi, tyN, dFor, dRow, dRng1, dRng2, dComp, wipeE, dYes, dJoin, dJs, dFmt, kFmt, pkS, kI2, kAbs, okq, eqv, okqs, eqvs, kCat, dsOf_map, nostos_d, fzs_d, List.getElem?_cons_zero, List.getElem?_cons_succ, List.set_cons_zero, List.set_cons_succ, List.length_cons, List.length_nil, Option.bind_some, Option.map_some, if_true, if_false, Bool.false_eq_true, decide_eq_true_eq, true_and, List.length_map, t_read_places_5_0, retE]
          exact ⟨_, rfl, hk'⟩
        split
        · rename_i h2
          have h2 : s.length = 1 := by simp at h2; omega
          obtain ⟨c, rfl⟩ : ∃ c, s = [c] := by
            cases s with
            | nil => cases h2
            | cons c t => cases t with
              | nil => exact ⟨c, rfl⟩
              | cons d t => cases h2
          simp only [dSeq, dNext, dIf, dOrT, dAndT, dNotT, dBl, kBl, dTru, kTru, DL.truD, dOp, dCl, s1, s2, dCons, dNil, dVar, dMov, dC, kLenN, peek, lenW, noDict, lenD, sCmp, sOrd, sEq, kEq, sIn, sIsN, nonW, sInt, sAdd, sMul, sRows, rowD, flat, dsOf, seqW, dRet, dRetN, dDrop, dBrk, dCnt, dAsg, gN, gTp, gsCons, gsNil, DL.gSub, setW, useW, useWs, useD, nosto, nostos, fz, fzs, dCall, dCall0, argsD, argD, dLst, dTup, dIte, dAnd, dOr, dNot, dNeg, dBm, isTy, mApp, sIx, kItem, rowOf, dSl, kSl, dNo, dSo, kInt, kStr, kRepr, kListOf, kIsi, tyN, dFor, dRow, dRng1, dRng2, dComp, wipeE, dYes, dJoin, dJs, dFmt, kFmt, pkS, kI2, kAbs, okq, eqv, okqs, eqvs, kCat, dsOf_map, nostos_d, fzs_d, List.getElem?_cons_zero, List.getElem?_cons_succ, List.set_cons_zero, List.set_cons_succ, List.length_cons, List.length_nil, Option.bind_some, Option.map_some, if_true, if_false, Bool.false_eq_true, decide_eq_true_eq, true_and, List.length_map, dig_in, Bool.false_bne]
          have r1 : rspot [c] = if isDig c = true then some (some (c - 48)) else none := by
            unfold rspot; rw [if_neg h1]
          split
          · rename_i h3
            simp only [t_read_places_4_0, dSeq, dNext, dIf, dOrT, dAndT, dNotT, dBl, kBl, dTru, kTru, DL.truD, dOp, dCl, s1, s2, dCons, dNil, dVar, dMov, dC, kLenN, peek, lenW, noDict, lenD, sCmp, sOrd, sEq, kEq, sIn, sIsN, nonW, sInt, sAdd, sMul, sRows, rowD, flat, dsOf, seqW, dRet, dRetN, dDrop, dBrk, dCnt, dAsg, gN, gTp, gsCons, gsNil, DL.gSub, setW, useW, useWs, useD, nosto, nostos, fz, fzs, dCall, dCall0, argsD, argD, dLst, dTup, dIte, dAnd, dOr, dNot, dNeg, dBm, isTy, mApp, sIx, kItem, rowOf, dSl, kSl, dNo, dSo, kInt, kStr, kRepr, kListOf, kIsi, tyN, dFor, dRow, dRng1, dRng2, dComp, wipeE, dYes, dJoin, dJs, dFmt, kFmt, pkS, kI2, kAbs, okq, eqv, okqs, eqvs, kCat, dsOf_map, nostos_d, fzs_d, List.getElem?_cons_zero, List.getElem?_cons_succ, List.set_cons_zero, List.set_cons_succ, List.length_cons, List.length_nil, Option.bind_some, Option.map_some, if_true, if_false, Bool.false_eq_true, decide_eq_true_eq, true_and, List.length_map, int1 h3]
            exact ⟨by decide, szl (by simp only [List.length_map, List.length_cons] at hn ⊢; omega), go (some (c - 48)) (by rw [r1, if_pos h3])⟩
          · rename_i h3
            exact bad (by rw [r1, if_neg h3])
        · rename_i h2
          refine bad ?_
          unfold rspot
          rw [if_neg h1]
          cases s with
          | nil => rfl
          | cons c t => cases t with
            | nil => exact absurd rfl h2
            | cons d t => rfl
  · rw [show (([] : List (Option Nat)) ++ ·) = (id : List (Option Nat) → _) from funext fun x => List.nil_append x, Option.map_id]; exact hk
  · obtain ⟨ss', acc, o, er, rfl, _, _, hk'⟩ := h
    cases ss' with
    | cons _ _ => cases er
    | nil =>
      simp only [t_read_places_0_2, dSeq, dNext, dIf, dOrT, dAndT, dNotT, dBl, kBl, dTru, kTru, DL.truD, dOp, dCl, s1, s2, dCons, dNil, dVar, dMov, dC, kLenN, peek, lenW, noDict, lenD, sCmp, sOrd, sEq, kEq, sIn, sIsN, nonW, sInt, sAdd, sMul, sRows, rowD, flat, dsOf, seqW, dRet, dRetN, dDrop, dBrk, dCnt, dAsg, gN, gTp, gsCons, gsNil, DL.gSub, setW, useW, useWs, useD, nosto, nostos, fz, fzs, dCall, dCall0, argsD, argD, dLst, dTup, dIte, dAnd, dOr, dNot, dNeg, dBm, isTy, mApp, sIx, kItem, rowOf, dSl, kSl, dNo, dSo, kInt, kStr, kRepr, kListOf, kIsi, tyN, dFor, dRow, dRng1, dRng2, dComp, wipeE, dYes, dJoin, dJs, dFmt, kFmt, pkS, kI2, kAbs, okq, eqv, okqs, eqvs, kCat, dsOf_map, nostos_d, fzs_d, List.getElem?_cons_zero, List.getElem?_cons_succ, List.set_cons_zero, List.set_cons_succ, List.length_cons, List.length_nil, Option.bind_some, Option.map_some, if_true, if_false, Bool.false_eq_true, decide_eq_true_eq, true_and, List.length_map, retE]
      refine ⟨_, rfl, ?_⟩
      simpa [rspots, spotsW] using hk'
end Lk27

namespace Lk27
open PySem DL
theorem occ_dig {c : Nat} (h : isDig c = true) : Builtin.Str.occurrences ⟨#[48, 49, 50, 51, 52, 53, 54, 55, 56, 57]⟩ ⟨#[c]⟩ 0 10 1 = [c - 48] := by
  obtain ⟨h1, h2⟩ := band h
  have h1 := of_decide_eq_true h1
  have h2 := of_decide_eq_true h2
  have e : c = 48 ∨ c = 49 ∨ c = 50 ∨ c = 51 ∨ c = 52 ∨ c = 53 ∨ c = 54 ∨ c = 55 ∨ c = 56 ∨ c = 57 := by omega
  rcases e with rfl | rfl | rfl | rfl | rfl | rfl | rfl | rfl | rfl | rfl <;> decide +kernel
theorem digitsVal_app (a b : List Nat) : NumText.digitsVal (a ++ b) = b.foldl (fun acc c => acc * 10 + (c - 48)) (NumText.digitsVal a) := by
  unfold NumText.digitsVal; rw [List.foldl_append]
theorem mul10 (n : Nat) : MulFit 10 (n : Int) := IntMulOk.of_left (by decide)
theorem p__law_number : ∀ ws k kx, ws.length = 1 → S__law_number ws k kx → t__law_number (retE k) (fun x _ => kx x) (startE N__law_number ws) := by
  rintro ws k kx - ⟨s, rfl, hs, hk⟩
  rw [se__law_number]
  have hl : s.length ≤ sizeLine := szl (by omega)
  have hn : ∀ a b, rnum s = none → t__law_number_3_0 (retE k) (fun x _ => kx x) [some (.d (.str s)), a, b] := fun a b h => by
    rw [h] at hk
    simp only [t__law_number_3_0, dSeq, dNext, dIf, dOrT, dAndT, dNotT, dBl, kBl, dTru, kTru, DL.truD, dOp, dCl, s1, s2, dCons, dNil, dVar, dMov, dC, kLenN, peek, lenW, noDict, lenD, sCmp, sOrd, sEq, kEq, sIn, sIsN, nonW, sInt, sAdd, sMul, sRows, rowD, flat, dsOf, seqW, dRet, dRetN, dDrop, dBrk, dCnt, dAsg, gN, gTp, gsCons, gsNil, DL.gSub, setW, useW, useWs, useD, nosto, nostos, fz, fzs, dCall, dCall0, argsD, argD, dLst, dTup, dIte, dAnd, dOr, dNot, dNeg, dBm, isTy, mApp, sIx, kItem, rowOf, dSl, kSl, dNo, dSo, kInt, kStr, kRepr, kListOf, kIsi, tyN, dFor, dRow, dRng1, dRng2, dComp, wipeE, dYes, dJoin, dJs, dFmt, kFmt, pkS, kI2, kAbs, okq, eqv, okqs, eqvs, kCat, dsOf_map, nostos_d, fzs_d, List.getElem?_cons_zero, List.getElem?_cons_succ, List.set_cons_zero, List.set_cons_succ, List.length_cons, List.length_nil, Option.bind_some, Option.map_some, if_true, if_false, Bool.false_eq_true, decide_eq_true_eq, true_and, List.length_map, useWs, retE]
    exact ⟨by decide, _, rfl, hk⟩
  simp only [t__law_number, t__law_number_0_0, dSeq, dNext, dIf, dOrT, dAndT, dNotT, dBl, kBl, dTru, kTru, DL.truD, dOp, dCl, s1, s2, dCons, dNil, dVar, dMov, dC, kLenN, peek, lenW, noDict, lenD, sCmp, sOrd, sEq, kEq, sIn, sIsN, nonW, sInt, sAdd, sMul, sRows, rowD, flat, dsOf, seqW, dRet, dRetN, dDrop, dBrk, dCnt, dAsg, gN, gTp, gsCons, gsNil, DL.gSub, setW, useW, useWs, useD, nosto, nostos, fz, fzs, dCall, dCall0, argsD, argD, dLst, dTup, dIte, dAnd, dOr, dNot, dNeg, dBm, isTy, mApp, sIx, kItem, rowOf, dSl, kSl, dNo, dSo, kInt, kStr, kRepr, kListOf, kIsi, tyN, dFor, dRow, dRng1, dRng2, dComp, wipeE, dYes, dJoin, dJs, dFmt, kFmt, pkS, kI2, kAbs, okq, eqv, okqs, eqvs, kCat, dsOf_map, nostos_d, fzs_d, List.getElem?_cons_zero, List.getElem?_cons_succ, List.set_cons_zero, List.set_cons_succ, List.length_cons, List.length_nil, Option.bind_some, Option.map_some, if_true, if_false, Bool.false_eq_true, decide_eq_true_eq, true_and, List.length_map]
  refine ⟨hl, ?_⟩
  split
  · exact hn _ _ (by unfold rnum; rw [if_pos (by omega)])
  rename_i h1
  refine ⟨hl, ?_⟩
  split
  · exact hn _ _ (by unfold rnum; rw [if_pos (by omega)])
  rename_i h2
  have h0 : ¬ (s.length < 1 ∨ 9 < s.length) := by omega
  have hr : rnum s = if s.all isDig = false then none else if 1 < s.length ∧ s[0]? = some 48 then none else some (NumText.digitsVal s) := by unfold rnum; rw [if_neg h0]
  have fin : ¬ (1 < s.length ∧ s[0]? = some 48) → t__law_number_0_1 (retE k) (fun x _ => kx x) [some (.d (.str s)), none, none] := fun h4 => by
    rw [if_neg h4] at hr
    simp only [t__law_number_0_1, dSeq, dNext, dIf, dOrT, dAndT, dNotT, dBl, kBl, dTru, kTru, DL.truD, dOp, dCl, s1, s2, dCons, dNil, dVar, dMov, dC, kLenN, peek, lenW, noDict, lenD, sCmp, sOrd, sEq, kEq, sIn, sIsN, nonW, sInt, sAdd, sMul, sRows, rowD, flat, dsOf, seqW, dRet, dRetN, dDrop, dBrk, dCnt, dAsg, gN, gTp, gsCons, gsNil, DL.gSub, setW, useW, useWs, useD, nosto, nostos, fz, fzs, dCall, dCall0, argsD, argD, dLst, dTup, dIte, dAnd, dOr, dNot, dNeg, dBm, isTy, mApp, sIx, kItem, rowOf, dSl, kSl, dNo, dSo, kInt, kStr, kRepr, kListOf, kIsi, tyN, dFor, dRow, dRng1, dRng2, dComp, wipeE, dYes, dJoin, dJs, dFmt, kFmt, pkS, kI2, kAbs, okq, eqv, okqs, eqvs, kCat, dsOf_map, nostos_d, fzs_d, List.getElem?_cons_zero, List.getElem?_cons_succ, List.set_cons_zero, List.set_cons_succ, List.length_cons, List.length_nil, Option.bind_some, Option.map_some, if_true, if_false, Bool.false_eq_true, decide_eq_true_eq, true_and, List.length_map]
    refine ⟨by decide, ?_⟩
    simp only [t__law_number_0_2, dSeq, dNext, dIf, dOrT, dAndT, dNotT, dBl, kBl, dTru, kTru, DL.truD, dOp, dCl, s1, s2, dCons, dNil, dVar, dMov, dC, kLenN, peek, lenW, noDict, lenD, sCmp, sOrd, sEq, kEq, sIn, sIsN, nonW, sInt, sAdd, sMul, sRows, rowD, flat, dsOf, seqW, dRet, dRetN, dDrop, dBrk, dCnt, dAsg, gN, gTp, gsCons, gsNil, DL.gSub, setW, useW, useWs, useD, nosto, nostos, fz, fzs, dCall, dCall0, argsD, argD, dLst, dTup, dIte, dAnd, dOr, dNot, dNeg, dBm, isTy, mApp, sIx, kItem, rowOf, dSl, kSl, dNo, dSo, kInt, kStr, kRepr, kListOf, kIsi, tyN, dFor, dRow, dRng1, dRng2, dComp, wipeE, dYes, dJoin, dJs, dFmt, kFmt, pkS, kI2, kAbs, okq, eqv, okqs, eqvs, kCat, dsOf_map, nostos_d, fzs_d, List.getElem?_cons_zero, List.getElem?_cons_succ, List.set_cons_zero, List.set_cons_succ, List.length_cons, List.length_nil, Option.bind_some, Option.map_some, if_true, if_false, Bool.false_eq_true, decide_eq_true_eq, true_and, List.length_map]
    refine forL_ind (fun r env => ∃ (u v : List Nat) (o : Option W), s = u ++ v ∧ r = v.map (fun c => W.d (.str [c])) ∧ u.all isDig = true ∧ env = [some (.d (.str s)), some (.d (.int (NumText.digitsVal u))), o]) (fun w r env K h hK => ?_) ⟨[], s, none, rfl, rfl, rfl, rfl⟩ (fun e h => ?_)
    · obtain ⟨u, v, o, es, er, hu, rfl⟩ := h
      cases v with
      | nil => cases er
      | cons c v =>
        cases er
        simp only [dSeq, dNext, dIf, dOrT, dAndT, dNotT, dBl, kBl, dTru, kTru, DL.truD, dOp, dCl, s1, s2, dCons, dNil, dVar, dMov, dC, kLenN, peek, lenW, noDict, lenD, sCmp, sOrd, sEq, kEq, sIn, sIsN, nonW, sInt, sAdd, sMul, sRows, rowD, flat, dsOf, seqW, dRet, dRetN, dDrop, dBrk, dCnt, dAsg, gN, gTp, gsCons, gsNil, DL.gSub, setW, useW, useWs, useD, nosto, nostos, fz, fzs, dCall, dCall0, argsD, argD, dLst, dTup, dIte, dAnd, dOr, dNot, dNeg, dBm, isTy, mApp, sIx, kItem, rowOf, dSl, kSl, dNo, dSo, kInt, kStr, kRepr, kListOf, kIsi, tyN, dFor, dRow, dRng1, dRng2, dComp, wipeE, dYes, dJoin, dJs, dFmt, kFmt, pkS, kI2, kAbs, okq, eqv, okqs, eqvs, kCat, dsOf_map, nostos_d, fzs_d, List.getElem?_cons_zero, List.getElem?_cons_succ, List.set_cons_zero, List.set_cons_succ, List.length_cons, List.length_nil, Option.bind_some, Option.map_some, if_true, if_false, Bool.false_eq_true, decide_eq_true_eq, true_and, List.length_map, t__law_number_1_0, dig_in, Bool.true_bne]
        refine ⟨by decide, ?_⟩
        split
        · rename_i h5
          have h5 : isDig c = false := by simpa using h5
          have hb : s.all isDig = false := by rw [es, List.all_append, List.all_cons, h5, Bool.false_and, Bool.and_false]
          rw [if_pos hb] at hr
          rw [hr] at hk
          simp only [t__law_number_2_0, dSeq, dNext, dIf, dOrT, dAndT, dNotT, dBl, kBl, dTru, kTru, DL.truD, dOp, dCl, s1, s2, dCons, dNil, dVar, dMov, dC, kLenN, peek, lenW, noDict, lenD, sCmp, sOrd, sEq, kEq, sIn, sIsN, nonW, sInt, sAdd, sMul, sRows, rowD, flat, dsOf, seqW, dRet, dRetN, dDrop, dBrk, dCnt, dAsg, gN, gTp, gsCons, gsNil, DL.gSub, setW, useW, useWs, useD, nosto, nostos, fz, fzs, dCall, dCall0, argsD, argD, dLst, dTup, dIte, dAnd, dOr, dNot, dNeg, dBm, isTy, mApp, sIx, kItem, rowOf, dSl, kSl, dNo, dSo, kInt, kStr, kRepr, kListOf, kIsi, tyN, dFor, dRow, dRng1, dRng2, dComp, wipeE, dYes, dJoin, dJs, dFmt, kFmt, pkS, kI2, kAbs, okq, eqv, okqs, eqvs, kCat, dsOf_map, nostos_d, fzs_d, List.getElem?_cons_zero, List.getElem?_cons_succ, List.set_cons_zero, List.set_cons_succ, List.length_cons, List.length_nil, Option.bind_some, Option.map_some, if_true, if_false, Bool.false_eq_true, decide_eq_true_eq, true_and, List.length_map, useWs, retE]
          exact ⟨by decide, _, rfl, hk⟩
        · rename_i h5
          have h5 : isDig c = true := by simpa using h5
          have eo := occ_dig h5
          simp only [t__law_number_1_1, dSeq, dNext, dIf, dOrT, dAndT, dNotT, dBl, kBl, dTru, kTru, DL.truD, dOp, dCl, s1, s2, dCons, dNil, dVar, dMov, dC, kLenN, peek, lenW, noDict, lenD, sCmp, sOrd, sEq, kEq, sIn, sIsN, nonW, sInt, sAdd, sMul, sRows, rowD, flat, dsOf, seqW, dRet, dRetN, dDrop, dBrk, dCnt, dAsg, gN, gTp, gsCons, gsNil, DL.gSub, setW, useW, useWs, useD, nosto, nostos, fz, fzs, dCall, dCall0, argsD, argD, dLst, dTup, dIte, dAnd, dOr, dNot, dNeg, dBm, isTy, mApp, sIx, kItem, rowOf, dSl, kSl, dNo, dSo, kInt, kStr, kRepr, kListOf, kIsi, tyN, dFor, dRow, dRng1, dRng2, dComp, wipeE, dYes, dJoin, dJs, dFmt, kFmt, pkS, kI2, kAbs, okq, eqv, okqs, eqvs, kCat, dsOf_map, nostos_d, fzs_d, List.getElem?_cons_zero, List.getElem?_cons_succ, List.set_cons_zero, List.set_cons_succ, List.length_cons, List.length_nil, Option.bind_some, Option.map_some, if_true, if_false, Bool.false_eq_true, decide_eq_true_eq, true_and, List.length_map, mIndex, Nat.reduceAdd, eo]
          refine ⟨mul10 _, by decide, hK _ ⟨u ++ [c], v, some (.d (.str [c])), by rw [es, List.append_assoc]; rfl, rfl, by rw [List.all_append, hu]; show (true && (isDig c && true)) = true; rw [h5]; rfl, ?_⟩⟩
          rw [digitsVal_app]
          show _ = [_, some (W.d (.int ((NumText.digitsVal u * 10 + (c - 48) : Nat) : Int))), _]
          rw [Int.natCast_add, Int.natCast_mul, Int.mul_comm]
          rfl
    · obtain ⟨u, v, o, es, er, hu, rfl⟩ := h
      cases v with
      | cons c v => cases er
      | nil =>
        rw [List.append_nil] at es
        subst es
        rw [if_neg (by rw [hu]; decide)] at hr
        rw [hr] at hk
        simp only [t__law_number_0_3, dSeq, dNext, dIf, dOrT, dAndT, dNotT, dBl, kBl, dTru, kTru, DL.truD, dOp, dCl, s1, s2, dCons, dNil, dVar, dMov, dC, kLenN, peek, lenW, noDict, lenD, sCmp, sOrd, sEq, kEq, sIn, sIsN, nonW, sInt, sAdd, sMul, sRows, rowD, flat, dsOf, seqW, dRet, dRetN, dDrop, dBrk, dCnt, dAsg, gN, gTp, gsCons, gsNil, DL.gSub, setW, useW, useWs, useD, nosto, nostos, fz, fzs, dCall, dCall0, argsD, argD, dLst, dTup, dIte, dAnd, dOr, dNot, dNeg, dBm, isTy, mApp, sIx, kItem, rowOf, dSl, kSl, dNo, dSo, kInt, kStr, kRepr, kListOf, kIsi, tyN, dFor, dRow, dRng1, dRng2, dComp, wipeE, dYes, dJoin, dJs, dFmt, kFmt, pkS, kI2, kAbs, okq, eqv, okqs, eqvs, kCat, dsOf_map, nostos_d, fzs_d, List.getElem?_cons_zero, List.getElem?_cons_succ, List.set_cons_zero, List.set_cons_succ, List.length_cons, List.length_nil, Option.bind_some, Option.map_some, if_true, if_false, Bool.false_eq_true, decide_eq_true_eq, true_and, List.length_map, useWs, retE]
        exact ⟨by decide, _, rfl, hk⟩
  refine ⟨hl, ?_⟩
  split
  · rename_i h4
    cases s with
    | nil => simp at h4
    | cons c t =>
      have ea : L2.atI (c :: t) 0 = some c := L2.atI_nat (j := 0) rfl
      simp only [ea]
      refine ⟨hl, ?_⟩
      split
      · rename_i h5
        have h5 : c = 48 := by simpa using h5
        refine hn _ _ ?_
        rw [hr]
        split
        · rfl
        · rw [if_pos ⟨by omega, by rw [h5]; rfl⟩]
      · rename_i h5
        exact fin fun h => h5 (by have := h.2; simp at this; simp [this])
  · rename_i h4
    exact fin fun h => h4 (by omega)
theorem take1 (s : List Nat) : cutL s none (some 1) = s.take 1 := by
  unfold cutL
  rw [HT.sIx_none, show HT.sIx s.length s.length (some 1) = min 1 s.length from HT.sIx_nat _ _ 1, List.drop_zero]
  cases s with
  | nil => rfl
  | cons c t => rw [Nat.min_eq_left (by simp)]
theorem drop1 (s : List Nat) : cutL s (some 1) none = s.drop 1 := by
  unfold cutL
  rw [show HT.sIx s.length 0 (some 1) = min 1 s.length from HT.sIx_nat _ _ 1, HT.sIx_none]
  rw [List.take_of_length_le (by rw [List.length_drop]; exact Nat.le_refl _)]
  cases s with
  | nil => rfl
  | cons c t => rw [Nat.min_eq_left (by simp)]
theorem p__law_cut : ∀ ws k kx, ws.length = 1 → S__law_cut ws k kx → t__law_cut (retE k) (fun x _ => kx x) (startE N__law_cut ws) := by
  rintro ws k kx - ⟨s, rfl, hs, hk⟩
  rw [se__law_cut]
  have hl : s.length ≤ sizeLine := szl (by omega)
  have bad : rcut s = none → t__law_cut_2_0 (retE k) (fun x _ => kx x) [some (.d (.str s)), none, none] := fun h => by
    rw [h] at hk
    simp only [t__law_cut_2_0, dSeq, dNext, dIf, dOrT, dAndT, dNotT, dBl, kBl, dTru, kTru, DL.truD, dOp, dCl, s1, s2, dCons, dNil, dVar, dMov, dC, kLenN, peek, lenW, noDict, lenD, sCmp, sOrd, sEq, kEq, sIn, sIsN, nonW, sInt, sAdd, sMul, sRows, rowD, flat, dsOf, seqW, dRet, dRetN, dDrop, dBrk, dCnt, dAsg, gN, gTp, gsCons, gsNil, DL.gSub, setW, useW, useWs, useD, nosto, nostos, fz, fzs, dCall, dCall0, argsD, argD, dLst, dTup, dIte, dAnd, dOr, dNot, dNeg, dBm, isTy, mApp, sIx, kItem, rowOf, dSl, kSl, dNo, dSo, kInt, kStr, kRepr, kListOf, kIsi, tyN, dFor, dRow, dRng1, dRng2, dComp, wipeE, dYes, dJoin, dJs, dFmt, kFmt, pkS, kI2, kAbs, okq, eqv, okqs, eqvs, kCat, dsOf_map, nostos_d, fzs_d, List.getElem?_cons_zero, List.getElem?_cons_succ, List.set_cons_zero, List.set_cons_succ, List.length_cons, List.length_nil, Option.bind_some, Option.map_some, if_true, if_false, Bool.false_eq_true, decide_eq_true_eq, true_and, List.length_map, useWs, retE]
    exact ⟨by decide, _, rfl, hk⟩
  simp only [t__law_cut, t__law_cut_0_0, dSeq, dNext, dIf, dOrT, dAndT, dNotT, dBl, kBl, dTru, kTru, DL.truD, dOp, dCl, s1, s2, dCons, dNil, dVar, dMov, dC, kLenN, peek, lenW, noDict, lenD, sCmp, sOrd, sEq, kEq, sIn, sIsN, nonW, sInt, sAdd, sMul, sRows, rowD, flat, dsOf, seqW, dRet, dRetN, dDrop, dBrk, dCnt, dAsg, gN, gTp, gsCons, gsNil, DL.gSub, setW, useW, useWs, useD, nosto, nostos, fz, fzs, dCall, dCall0, argsD, argD, dLst, dTup, dIte, dAnd, dOr, dNot, dNeg, dBm, isTy, mApp, sIx, kItem, rowOf, dSl, kSl, dNo, dSo, kInt, kStr, kRepr, kListOf, kIsi, tyN, dFor, dRow, dRng1, dRng2, dComp, wipeE, dYes, dJoin, dJs, dFmt, kFmt, pkS, kI2, kAbs, okq, eqv, okqs, eqvs, kCat, dsOf_map, nostos_d, fzs_d, List.getElem?_cons_zero, List.getElem?_cons_succ, List.set_cons_zero, List.set_cons_succ, List.length_cons, List.length_nil, Option.bind_some, Option.map_some, if_true, if_false, Bool.false_eq_true, decide_eq_true_eq, true_and, List.length_map, take1, Bool.true_bne]
  have fin : ∀ c t, s = c :: t → c = 114 ∨ c = 99 → t__law_cut_0_1 (retE k) (fun x _ => kx x) [some (.d (.str s)), none, none] := fun c t es hc => by
    subst es
    have hk : k (.ol ((match rnum t with | some n => if c = 114 then some (tRow, n) else if c = 99 then some (tCol, n) else none | none => none).toList.map cutT)) := hk
    have ea : L2.atI (c :: t) 0 = some c := L2.atI_nat (j := 0) rfl
    have rest : ∀ side, (∀ n, rnum t = some n → (if c = 114 then some (tRow, n) else if c = 99 then some (tCol, n) else none) = some (side, n)) → t__law_cut_0_3 (retE k) (fun x _ => kx x) [some (.d (.str (c :: t))), some (.d (.str side)), none] := fun side hside => by
      simp only [t__law_cut_0_3, dSeq, dNext, dIf, dOrT, dAndT, dNotT, dBl, kBl, dTru, kTru, DL.truD, dOp, dCl, s1, s2, dCons, dNil, dVar, dMov, dC, kLenN, peek, lenW, noDict, lenD, sCmp, sOrd, sEq, kEq, sIn, sIsN, nonW, sInt, sAdd, sMul, sRows, rowD, flat, dsOf, seqW, dRet, dRetN, dDrop, dBrk, dCnt, dAsg, gN, gTp, gsCons, gsNil, DL.gSub, setW, useW, useWs, useD, nosto, nostos, fz, fzs, dCall, dCall0, argsD, argD, dLst, dTup, dIte, dAnd, dOr, dNot, dNeg, dBm, isTy, mApp, sIx, kItem, rowOf, dSl, kSl, dNo, dSo, kInt, kStr, kRepr, kListOf, kIsi, tyN, dFor, dRow, dRng1, dRng2, dComp, wipeE, dYes, dJoin, dJs, dFmt, kFmt, pkS, kI2, kAbs, okq, eqv, okqs, eqvs, kCat, dsOf_map, nostos_d, fzs_d, List.getElem?_cons_zero, List.getElem?_cons_succ, List.set_cons_zero, List.set_cons_succ, List.length_cons, List.length_nil, Option.bind_some, Option.map_some, if_true, if_false, Bool.false_eq_true, decide_eq_true_eq, true_and, List.length_map, drop1]
      refine ⟨hl, t, rfl, by simp at hs; omega, ?_⟩
      cases hr : rnum t with
      | none =>
        rw [hr] at hk
        simp only [dSeq, dNext, dIf, dOrT, dAndT, dNotT, dBl, kBl, dTru, kTru, DL.truD, dOp, dCl, s1, s2, dCons, dNil, dVar, dMov, dC, kLenN, peek, lenW, noDict, lenD, sCmp, sOrd, sEq, kEq, sIn, sIsN, nonW, sInt, sAdd, sMul, sRows, rowD, flat, dsOf, seqW, dRet, dRetN, dDrop, dBrk, dCnt, dAsg, gN, gTp, gsCons, gsNil, DL.gSub, setW, useW, useWs, useD, nosto, nostos, fz, fzs, dCall, dCall0, argsD, argD, dLst, dTup, dIte, dAnd, dOr, dNot, dNeg, dBm, isTy, mApp, sIx, kItem, rowOf, dSl, kSl, dNo, dSo, kInt, kStr, kRepr, kListOf, kIsi, tyN, dFor, dRow, dRng1, dRng2, dComp, wipeE, dYes, dJoin, dJs, dFmt, kFmt, pkS, kI2, kAbs, okq, eqv, okqs, eqvs, kCat, dsOf_map, nostos_d, fzs_d, List.getElem?_cons_zero, List.getElem?_cons_succ, List.set_cons_zero, List.set_cons_succ, List.length_cons, List.length_nil, Option.bind_some, Option.map_some, if_true, if_false, Bool.false_eq_true, decide_eq_true_eq, true_and, List.length_map, Option.toList, List.map_nil, compL, retE]
        exact ⟨_, rfl, hk⟩
      | some n =>
        rw [hr] at hk
        have hk : k (.ol ((if c = 114 then some (tRow, n) else if c = 99 then some (tCol, n) else none).toList.map cutT)) := hk
        rw [hside n hr] at hk
        simp only [dSeq, dNext, dIf, dOrT, dAndT, dNotT, dBl, kBl, dTru, kTru, DL.truD, dOp, dCl, s1, s2, dCons, dNil, dVar, dMov, dC, kLenN, peek, lenW, noDict, lenD, sCmp, sOrd, sEq, kEq, sIn, sIsN, nonW, sInt, sAdd, sMul, sRows, rowD, flat, dsOf, seqW, dRet, dRetN, dDrop, dBrk, dCnt, dAsg, gN, gTp, gsCons, gsNil, DL.gSub, setW, useW, useWs, useD, nosto, nostos, fz, fzs, dCall, dCall0, argsD, argD, dLst, dTup, dIte, dAnd, dOr, dNot, dNeg, dBm, isTy, mApp, sIx, kItem, rowOf, dSl, kSl, dNo, dSo, kInt, kStr, kRepr, kListOf, kIsi, tyN, dFor, dRow, dRng1, dRng2, dComp, wipeE, dYes, dJoin, dJs, dFmt, kFmt, pkS, kI2, kAbs, okq, eqv, okqs, eqvs, kCat, dsOf_map, nostos_d, fzs_d, List.getElem?_cons_zero, List.getElem?_cons_succ, List.set_cons_zero, List.set_cons_succ, List.length_cons, List.length_nil, Option.bind_some, Option.map_some, if_true, if_false, Bool.false_eq_true, decide_eq_true_eq, true_and, List.length_map, Option.toList, List.map_nil, List.map_cons, compL, useWs, retE, clear, clears, flatL, Bool.and_true]
        exact ⟨by decide, szl (by decide), szl (by decide), _, rfl, hk⟩
    simp only [t__law_cut_0_1, dSeq, dNext, dIf, dOrT, dAndT, dNotT, dBl, kBl, dTru, kTru, DL.truD, dOp, dCl, s1, s2, dCons, dNil, dVar, dMov, dC, kLenN, peek, lenW, noDict, lenD, sCmp, sOrd, sEq, kEq, sIn, sIsN, nonW, sInt, sAdd, sMul, sRows, rowD, flat, dsOf, seqW, dRet, dRetN, dDrop, dBrk, dCnt, dAsg, gN, gTp, gsCons, gsNil, DL.gSub, setW, useW, useWs, useD, nosto, nostos, fz, fzs, dCall, dCall0, argsD, argD, dLst, dTup, dIte, dAnd, dOr, dNot, dNeg, dBm, isTy, mApp, sIx, kItem, rowOf, dSl, kSl, dNo, dSo, kInt, kStr, kRepr, kListOf, kIsi, tyN, dFor, dRow, dRng1, dRng2, dComp, wipeE, dYes, dJoin, dJs, dFmt, kFmt, pkS, kI2, kAbs, okq, eqv, okqs, eqvs, kCat, dsOf_map, nostos_d, fzs_d, List.getElem?_cons_zero, List.getElem?_cons_succ, List.set_cons_zero, List.set_cons_succ, List.length_cons, List.length_nil, Option.bind_some, Option.map_some, if_true, if_false, Bool.false_eq_true, decide_eq_true_eq, true_and, List.length_map]
    refine ⟨by decide, ?_⟩
    simp only [t__law_cut_0_2, dSeq, dNext, dIf, dOrT, dAndT, dNotT, dBl, kBl, dTru, kTru, DL.truD, dOp, dCl, s1, s2, dCons, dNil, dVar, dMov, dC, kLenN, peek, lenW, noDict, lenD, sCmp, sOrd, sEq, kEq, sIn, sIsN, nonW, sInt, sAdd, sMul, sRows, rowD, flat, dsOf, seqW, dRet, dRetN, dDrop, dBrk, dCnt, dAsg, gN, gTp, gsCons, gsNil, DL.gSub, setW, useW, useWs, useD, nosto, nostos, fz, fzs, dCall, dCall0, argsD, argD, dLst, dTup, dIte, dAnd, dOr, dNot, dNeg, dBm, isTy, mApp, sIx, kItem, rowOf, dSl, kSl, dNo, dSo, kInt, kStr, kRepr, kListOf, kIsi, tyN, dFor, dRow, dRng1, dRng2, dComp, wipeE, dYes, dJoin, dJs, dFmt, kFmt, pkS, kI2, kAbs, okq, eqv, okqs, eqvs, kCat, dsOf_map, nostos_d, fzs_d, List.getElem?_cons_zero, List.getElem?_cons_succ, List.set_cons_zero, List.set_cons_succ, List.length_cons, List.length_nil, Option.bind_some, Option.map_some, if_true, if_false, Bool.false_eq_true, decide_eq_true_eq, true_and, List.length_map, ea, Bool.false_bne]
    refine ⟨hl, ?_⟩
    rcases hc with rfl | rfl
    · rw [if_neg (by decide)]
      exact rest tRow fun n _ => rfl
    · rw [if_pos (by decide)]
      simp only [t__law_cut_1_0, dSeq, dNext, dIf, dOrT, dAndT, dNotT, dBl, kBl, dTru, kTru, DL.truD, dOp, dCl, s1, s2, dCons, dNil, dVar, dMov, dC, kLenN, peek, lenW, noDict, lenD, sCmp, sOrd, sEq, kEq, sIn, sIsN, nonW, sInt, sAdd, sMul, sRows, rowD, flat, dsOf, seqW, dRet, dRetN, dDrop, dBrk, dCnt, dAsg, gN, gTp, gsCons, gsNil, DL.gSub, setW, useW, useWs, useD, nosto, nostos, fz, fzs, dCall, dCall0, argsD, argD, dLst, dTup, dIte, dAnd, dOr, dNot, dNeg, dBm, isTy, mApp, sIx, kItem, rowOf, dSl, kSl, dNo, dSo, kInt, kStr, kRepr, kListOf, kIsi, tyN, dFor, dRow, dRng1, dRng2, dComp, wipeE, dYes, dJoin, dJs, dFmt, kFmt, pkS, kI2, kAbs, okq, eqv, okqs, eqvs, kCat, dsOf_map, nostos_d, fzs_d, List.getElem?_cons_zero, List.getElem?_cons_succ, List.set_cons_zero, List.set_cons_succ, List.length_cons, List.length_nil, Option.bind_some, Option.map_some, if_true, if_false, Bool.false_eq_true, decide_eq_true_eq, true_and, List.length_map]
      exact ⟨by decide, rest tCol fun n _ => rfl⟩
  refine ⟨hl, ?_⟩
  cases s with
  | nil =>
    rw [if_pos (by decide)]
    refine ⟨hl, ?_⟩
    rw [if_pos (by decide)]
    exact bad rfl
  | cons c t =>
    rw [show (c :: t).take 1 = [c] from rfl]
    by_cases h1 : c = 114
    · subst h1
      rw [if_neg (by decide)]
      exact fin _ _ rfl (.inl rfl)
    rw [if_pos (by simpa using h1)]
    refine ⟨hl, ?_⟩
    by_cases h2 : c = 99
    · subst h2
      rw [if_neg (by decide)]
      exact fin _ _ rfl (.inr rfl)
    rw [if_pos (by simpa using h2)]
    refine bad ?_
    show (match rnum t with | some n => if c = 114 then some (tRow, n) else if c = 99 then some (tCol, n) else none | none => none) = none
    cases rnum t with
    | none => rfl
    | some n => show (if c = 114 then some (tRow, n) else if c = 99 then some (tCol, n) else none) = none; rw [if_neg h1, if_neg h2]
theorem fold_le : ∀ (l : List Nat) (a : Nat), a ≤ l.foldl (fun acc c => acc * 10 + (c - 48)) a
  | [], a => Nat.le_refl _
  | c :: l, a => Nat.le_trans (by omega) (fold_le l (a * 10 + (c - 48)))
theorem rnum_one (s : List Nat) : (match rnum s with | some n => if n < 10 then some (some n) else none | none => none) = (if s = [45] then none else rspot s : Option (Option Nat)) := by
  match s with
  | [] => rfl
  | [c] =>
    have e : rnum [c] = if isDig c = false then none else some (c - 48) := by
      unfold rnum
      rw [if_neg (by simp), show [c].all isDig = isDig c from Bool.and_true _]
      have v : NumText.digitsVal [c] = c - 48 := by show 0 * 10 + (c - 48) = _; omega
      rw [if_neg (c := 1 < [c].length ∧ _) (by simp), v]
    rw [e]
    by_cases h : c = 45
    · subst h; rfl
    · have h2 : ¬ ([c] = [45]) := by simpa using h
      rw [if_neg h2]
      unfold rspot
      rw [if_neg h2]
      cases hd : isDig c with
      | false =>
        rw [if_pos rfl]
        show none = if isDig c = true then some (some (c - 48)) else none
        rw [hd]; rfl
      | true =>
        rw [if_neg (by decide)]
        obtain ⟨h1, h3⟩ := band hd
        have h3 := of_decide_eq_true h3
        show (if c - 48 < 10 then some (some (c - 48)) else none) = if isDig c = true then some (some (c - 48)) else none
        rw [if_pos (by omega), if_pos hd]
  | c :: d :: t =>
    have h2 : ¬ (c :: d :: t = [45]) := fun h => by cases h
    rw [if_neg h2]
    unfold rspot
    rw [if_neg h2]
    show (match rnum (c :: d :: t) with | some n => if n < 10 then some (some n) else none | none => none) = (none : Option (Option Nat))
    unfold rnum
    split
    · rename_i n hn
      split at hn
      · cases hn
      split at hn
      · cases hn
      split at hn
      · cases hn
      rename_i h3 h4
      cases hn
      rw [if_neg]
      have h3 : (c :: d :: t).all isDig = true := by simpa using h3
      obtain ⟨h5, h6⟩ := band (show (isDig c && (d :: t).all isDig) = true from h3)
      obtain ⟨h5, h7⟩ := band h5
      have h5 := of_decide_eq_true h5
      have c49 : 49 ≤ c := by
        have : c ≠ 48 := fun h => h4 ⟨by simp, by rw [h]; rfl⟩
        omega
      have := fold_le t ((0 * 10 + (c - 48)) * 10 + (d - 48))
      show ¬ (t.foldl (fun acc c => acc * 10 + (c - 48)) ((0 * 10 + (c - 48)) * 10 + (d - 48)) < 10)
      omega
    · rfl
theorem p__law_spot : ∀ ws k kx, ws.length = 1 → S__law_spot ws k kx → t__law_spot (retE k) (fun x _ => kx x) (startE N__law_spot ws) := by
  rintro ws k kx - ⟨s, rfl, hs, hk⟩
  rw [se__law_spot]
  have hl : s.length ≤ sizeLine := szl (by omega)
  simp only [t__law_spot, t__law_spot_0_0, dSeq, dNext, dIf, dOrT, dAndT, dNotT, dBl, kBl, dTru, kTru, DL.truD, dOp, dCl, s1, s2, dCons, dNil, dVar, dMov, dC, kLenN, peek, lenW, noDict, lenD, sCmp, sOrd, sEq, kEq, sIn, sIsN, nonW, sInt, sAdd, sMul, sRows, rowD, flat, dsOf, seqW, dRet, dRetN, dDrop, dBrk, dCnt, dAsg, gN, gTp, gsCons, gsNil, DL.gSub, setW, useW, useWs, useD, nosto, nostos, fz, fzs, dCall, dCall0, argsD, argD, dLst, dTup, dIte, dAnd, dOr, dNot, dNeg, dBm, isTy, mApp, sIx, kItem, rowOf, dSl, kSl, dNo, dSo, kInt, kStr, kRepr, kListOf, kIsi, tyN, dFor, dRow, dRng1, dRng2, dComp, wipeE, dYes, dJoin, dJs, dFmt, kFmt, pkS, kI2, kAbs, okq, eqv, okqs, eqvs, kCat, dsOf_map, nostos_d, fzs_d, List.getElem?_cons_zero, List.getElem?_cons_succ, List.set_cons_zero, List.set_cons_succ, List.length_cons, List.length_nil, Option.bind_some, Option.map_some, if_true, if_false, Bool.false_eq_true, decide_eq_true_eq, true_and, List.length_map, Bool.false_bne]
  by_cases h1 : s = [45]
  · subst h1
    rw [if_pos (by decide)]
    simp only [t__law_spot_1_0, dSeq, dNext, dIf, dOrT, dAndT, dNotT, dBl, kBl, dTru, kTru, DL.truD, dOp, dCl, s1, s2, dCons, dNil, dVar, dMov, dC, kLenN, peek, lenW, noDict, lenD, sCmp, sOrd, sEq, kEq, sIn, sIsN, nonW, sInt, sAdd, sMul, sRows, rowD, flat, dsOf, seqW, dRet, dRetN, dDrop, dBrk, dCnt, dAsg, gN, gTp, gsCons, gsNil, DL.gSub, setW, useW, useWs, useD, nosto, nostos, fz, fzs, dCall, dCall0, argsD, argD, dLst, dTup, dIte, dAnd, dOr, dNot, dNeg, dBm, isTy, mApp, sIx, kItem, rowOf, dSl, kSl, dNo, dSo, kInt, kStr, kRepr, kListOf, kIsi, tyN, dFor, dRow, dRng1, dRng2, dComp, wipeE, dYes, dJoin, dJs, dFmt, kFmt, pkS, kI2, kAbs, okq, eqv, okqs, eqvs, kCat, dsOf_map, nostos_d, fzs_d, List.getElem?_cons_zero, List.getElem?_cons_succ, List.set_cons_zero, List.set_cons_succ, List.length_cons, List.length_nil, Option.bind_some, Option.map_some, if_true, if_false, Bool.false_eq_true, decide_eq_true_eq, true_and, List.length_map, useWs, retE]
    exact ⟨by decide, _, rfl, hk⟩
  · rw [if_neg (by simpa using h1)]
    have e := rnum_one s
    rw [if_neg h1] at e
    rw [← e] at hk
    simp only [t__law_spot_0_1, dSeq, dNext, dIf, dOrT, dAndT, dNotT, dBl, kBl, dTru, kTru, DL.truD, dOp, dCl, s1, s2, dCons, dNil, dVar, dMov, dC, kLenN, peek, lenW, noDict, lenD, sCmp, sOrd, sEq, kEq, sIn, sIsN, nonW, sInt, sAdd, sMul, sRows, rowD, flat, dsOf, seqW, dRet, dRetN, dDrop, dBrk, dCnt, dAsg, gN, gTp, gsCons, gsNil, DL.gSub, setW, useW, useWs, useD, nosto, nostos, fz, fzs, dCall, dCall0, argsD, argD, dLst, dTup, dIte, dAnd, dOr, dNot, dNeg, dBm, isTy, mApp, sIx, kItem, rowOf, dSl, kSl, dNo, dSo, kInt, kStr, kRepr, kListOf, kIsi, tyN, dFor, dRow, dRng1, dRng2, dComp, wipeE, dYes, dJoin, dJs, dFmt, kFmt, pkS, kI2, kAbs, okq, eqv, okqs, eqvs, kCat, dsOf_map, nostos_d, fzs_d, List.getElem?_cons_zero, List.getElem?_cons_succ, List.set_cons_zero, List.set_cons_succ, List.length_cons, List.length_nil, Option.bind_some, Option.map_some, if_true, if_false, Bool.false_eq_true, decide_eq_true_eq, true_and, List.length_map]
    refine ⟨s, rfl, hs, ?_⟩
    cases hr : rnum s with
    | none =>
      rw [hr] at hk
      simp only [dSeq, dNext, dIf, dOrT, dAndT, dNotT, dBl, kBl, dTru, kTru, DL.truD, dOp, dCl, s1, s2, dCons, dNil, dVar, dMov, dC, kLenN, peek, lenW, noDict, lenD, sCmp, sOrd, sEq, kEq, sIn, sIsN, nonW, sInt, sAdd, sMul, sRows, rowD, flat, dsOf, seqW, dRet, dRetN, dDrop, dBrk, dCnt, dAsg, gN, gTp, gsCons, gsNil, DL.gSub, setW, useW, useWs, useD, nosto, nostos, fz, fzs, dCall, dCall0, argsD, argD, dLst, dTup, dIte, dAnd, dOr, dNot, dNeg, dBm, isTy, mApp, sIx, kItem, rowOf, dSl, kSl, dNo, dSo, kInt, kStr, kRepr, kListOf, kIsi, tyN, dFor, dRow, dRng1, dRng2, dComp, wipeE, dYes, dJoin, dJs, dFmt, kFmt, pkS, kI2, kAbs, okq, eqv, okqs, eqvs, kCat, dsOf_map, nostos_d, fzs_d, List.getElem?_cons_zero, List.getElem?_cons_succ, List.set_cons_zero, List.set_cons_succ, List.length_cons, List.length_nil, Option.bind_some, Option.map_some, if_true, if_false, Bool.false_eq_true, decide_eq_true_eq, true_and, List.length_map, Option.toList, List.map_nil, compL, retE]
      exact ⟨_, rfl, hk⟩
    | some n =>
      rw [hr] at hk
      have hk : k (.ol ((if n < 10 then some (some n) else none : Option (Option Nat)).toList.map fun o => W.d (optI o))) := hk
      simp only [dSeq, dNext, dIf, dOrT, dAndT, dNotT, dBl, kBl, dTru, kTru, DL.truD, dOp, dCl, s1, s2, dCons, dNil, dVar, dMov, dC, kLenN, peek, lenW, noDict, lenD, sCmp, sOrd, sEq, kEq, sIn, sIsN, nonW, sInt, sAdd, sMul, sRows, rowD, flat, dsOf, seqW, dRet, dRetN, dDrop, dBrk, dCnt, dAsg, gN, gTp, gsCons, gsNil, DL.gSub, setW, useW, useWs, useD, nosto, nostos, fz, fzs, dCall, dCall0, argsD, argD, dLst, dTup, dIte, dAnd, dOr, dNot, dNeg, dBm, isTy, mApp, sIx, kItem, rowOf, dSl, kSl, dNo, dSo, kInt, kStr, kRepr, kListOf, kIsi, tyN, dFor, dRow, dRng1, dRng2, dComp, wipeE, dYes, dJoin, dJs, dFmt, kFmt, pkS, kI2, kAbs, okq, eqv, okqs, eqvs, kCat, dsOf_map, nostos_d, fzs_d, List.getElem?_cons_zero, List.getElem?_cons_succ, List.set_cons_zero, List.set_cons_succ, List.length_cons, List.length_nil, Option.bind_some, Option.map_some, if_true, if_false, Bool.false_eq_true, decide_eq_true_eq, true_and, List.length_map, Option.toList, List.map_nil, List.map_cons, compL, useWs, retE, clear, clears, flatL, Bool.and_true]
      by_cases h2 : n < 10
      · rw [if_pos h2] at hk
        rw [if_pos (by omega)]
        exact ⟨by decide, szl (by decide), _, rfl, hk⟩
      · rw [if_neg h2] at hk
        rw [if_neg (by omega)]
        exact ⟨by decide, _, rfl, hk⟩
theorem p__law_named : ∀ ws k kx, ws.length = 1 → S__law_named ws k kx → t__law_named (retE k) (fun x _ => kx x) (startE N__law_named ws) := by
  rintro ws k kx - ⟨s, rfl, hs, hk⟩
  rw [se__law_named]
  have hl : s.length ≤ sizeLine := szl (by omega)
  simp only [t__law_named, t__law_named_0_0, dSeq, dNext, dIf, dOrT, dAndT, dNotT, dBl, kBl, dTru, kTru, DL.truD, dOp, dCl, s1, s2, dCons, dNil, dVar, dMov, dC, kLenN, peek, lenW, noDict, lenD, sCmp, sOrd, sEq, kEq, sIn, sIsN, nonW, sInt, sAdd, sMul, sRows, rowD, flat, dsOf, seqW, dRet, dRetN, dDrop, dBrk, dCnt, dAsg, gN, gTp, gsCons, gsNil, DL.gSub, setW, useW, useWs, useD, nosto, nostos, fz, fzs, dCall, dCall0, argsD, argD, dLst, dTup, dIte, dAnd, dOr, dNot, dNeg, dBm, isTy, mApp, sIx, kItem, rowOf, dSl, kSl, dNo, dSo, kInt, kStr, kRepr, kListOf, kIsi, tyN, dFor, dRow, dRng1, dRng2, dComp, wipeE, dYes, dJoin, dJs, dFmt, kFmt, pkS, kI2, kAbs, okq, eqv, okqs, eqvs, kCat, dsOf_map, nostos_d, fzs_d, List.getElem?_cons_zero, List.getElem?_cons_succ, List.set_cons_zero, List.set_cons_succ, List.length_cons, List.length_nil, Option.bind_some, Option.map_some, if_true, if_false, Bool.false_eq_true, decide_eq_true_eq, true_and, List.length_map]
  refine forL_ind (fun r env => ∃ (u v : List Nat) (o : Option W), s = u ++ v ∧ r = v.map (fun c => W.d (.str [c])) ∧ u.all isLow = true ∧ env = [some (.d (.str s)), o]) (fun w r env K h hK => ?_) ⟨[], s, none, rfl, rfl, rfl, rfl⟩ (fun e h => ?_)
  · obtain ⟨u, v, o, es, er, hu, rfl⟩ := h
    cases v with
    | nil => cases er
    | cons c v =>
      cases er
      simp only [dSeq, dNext, dIf, dOrT, dAndT, dNotT, dBl, kBl, dTru, kTru, DL.truD, dOp, dCl, s1, s2, dCons, dNil, dVar, dMov, dC, kLenN, peek, lenW, noDict, lenD, sCmp, sOrd, sEq, kEq, sIn, sIsN, nonW, sInt, sAdd, sMul, sRows, rowD, flat, dsOf, seqW, dRet, dRetN, dDrop, dBrk, dCnt, dAsg, gN, gTp, gsCons, gsNil, DL.gSub, setW, useW, useWs, useD, nosto, nostos, fz, fzs, dCall, dCall0, argsD, argD, dLst, dTup, dIte, dAnd, dOr, dNot, dNeg, dBm, isTy, mApp, sIx, kItem, rowOf, dSl, kSl, dNo, dSo, kInt, kStr, kRepr, kListOf, kIsi, tyN, dFor, dRow, dRng1, dRng2, dComp, wipeE, dYes, dJoin, dJs, dFmt, kFmt, pkS, kI2, kAbs, okq, eqv, okqs, eqvs, kCat, dsOf_map, nostos_d, fzs_d, List.getElem?_cons_zero, List.getElem?_cons_succ, List.set_cons_zero, List.set_cons_succ, List.length_cons, List.length_nil, Option.bind_some, Option.map_some, if_true, if_false, Bool.false_eq_true, decide_eq_true_eq, true_and, List.length_map, t__law_named_1_0, low_in, Bool.true_bne]
      refine ⟨by decide, ?_⟩
      split
      · rename_i h5
        have h5 : isLow c = false := by simpa using h5
        have hb : s.all isLow = false := by rw [es, List.all_append, List.all_cons, h5, Bool.false_and, Bool.and_false]
        unfold named at hk
        rw [hb, Bool.and_false] at hk
        simp only [t__law_named_2_0, dSeq, dNext, dIf, dOrT, dAndT, dNotT, dBl, kBl, dTru, kTru, DL.truD, dOp, dCl, s1, s2, dCons, dNil, dVar, dMov, dC, kLenN, peek, lenW, noDict, lenD, sCmp, sOrd, sEq, kEq, sIn, sIsN, nonW, sInt, sAdd, sMul, sRows, rowD, flat, dsOf, seqW, dRet, dRetN, dDrop, dBrk, dCnt, dAsg, gN, gTp, gsCons, gsNil, DL.gSub, setW, useW, useWs, useD, nosto, nostos, fz, fzs, dCall, dCall0, argsD, argD, dLst, dTup, dIte, dAnd, dOr, dNot, dNeg, dBm, isTy, mApp, sIx, kItem, rowOf, dSl, kSl, dNo, dSo, kInt, kStr, kRepr, kListOf, kIsi, tyN, dFor, dRow, dRng1, dRng2, dComp, wipeE, dYes, dJoin, dJs, dFmt, kFmt, pkS, kI2, kAbs, okq, eqv, okqs, eqvs, kCat, dsOf_map, nostos_d, fzs_d, List.getElem?_cons_zero, List.getElem?_cons_succ, List.set_cons_zero, List.set_cons_succ, List.length_cons, List.length_nil, Option.bind_some, Option.map_some, if_true, if_false, Bool.false_eq_true, decide_eq_true_eq, true_and, List.length_map, retE]
        exact ⟨_, rfl, hk⟩
      · rename_i h5
        have h5 : isLow c = true := by simpa using h5
        exact hK _ ⟨u ++ [c], v, some (.d (.str [c])), by rw [es, List.append_assoc]; rfl, rfl, by rw [List.all_append, hu]; show (true && (isLow c && true)) = true; rw [h5]; rfl, rfl⟩
  · obtain ⟨u, v, o, es, er, hu, rfl⟩ := h
    cases v with
    | cons c v => cases er
    | nil =>
      rw [List.append_nil] at es
      subst es
      unfold named at hk
      rw [hu, Bool.and_true] at hk
      simp only [t__law_named_0_1, dSeq, dNext, dIf, dOrT, dAndT, dNotT, dBl, kBl, dTru, kTru, DL.truD, dOp, dCl, s1, s2, dCons, dNil, dVar, dMov, dC, kLenN, peek, lenW, noDict, lenD, sCmp, sOrd, sEq, kEq, sIn, sIsN, nonW, sInt, sAdd, sMul, sRows, rowD, flat, dsOf, seqW, dRet, dRetN, dDrop, dBrk, dCnt, dAsg, gN, gTp, gsCons, gsNil, DL.gSub, setW, useW, useWs, useD, nosto, nostos, fz, fzs, dCall, dCall0, argsD, argD, dLst, dTup, dIte, dAnd, dOr, dNot, dNeg, dBm, isTy, mApp, sIx, kItem, rowOf, dSl, kSl, dNo, dSo, kInt, kStr, kRepr, kListOf, kIsi, tyN, dFor, dRow, dRng1, dRng2, dComp, wipeE, dYes, dJoin, dJs, dFmt, kFmt, pkS, kI2, kAbs, okq, eqv, okqs, eqvs, kCat, dsOf_map, nostos_d, fzs_d, List.getElem?_cons_zero, List.getElem?_cons_succ, List.set_cons_zero, List.set_cons_succ, List.length_cons, List.length_nil, Option.bind_some, Option.map_some, if_true, if_false, Bool.false_eq_true, decide_eq_true_eq, true_and, List.length_map, retE]
      refine ⟨hl, Nat.zero_le _, ?_⟩
      by_cases h1 : 0 < s.length
      · rw [if_pos (by simpa using h1)]
        rw [decide_eq_true h1, Bool.true_and] at hk
        refine ⟨hl, _, rfl, ?_⟩
        rw [show decide ((s.length : Int) < 9) = decide (s.length < 9) from decide_eq_decide.mpr (by omega)]
        exact hk
      · rw [if_neg (by simpa using h1)]
        rw [decide_eq_false h1, Bool.false_and] at hk
        refine ⟨_, rfl, ?_⟩
        rw [show decide ((0 : Int) < s.length) = false from decide_eq_false (by omega)]
        exact hk
theorem p__law_first : ∀ ws k kx, ws.length = 1 → S__law_first ws k kx → t__law_first (retE k) (fun x _ => kx x) (startE N__law_first ws) := by
  rintro ws k kx - ⟨xs, rfl, hk⟩
  rw [se__law_first]
  cases xs with
  | nil =>
    simp only [t__law_first, t__law_first_0_0, dSeq, dNext, dIf, dOrT, dAndT, dNotT, dBl, kBl, dTru, kTru, DL.truD, dOp, dCl, s1, s2, dCons, dNil, dVar, dMov, dC, kLenN, peek, lenW, noDict, lenD, sCmp, sOrd, sEq, kEq, sIn, sIsN, nonW, sInt, sAdd, sMul, sRows, rowD, flat, dsOf, seqW, dRet, dRetN, dDrop, dBrk, dCnt, dAsg, gN, gTp, gsCons, gsNil, DL.gSub, setW, useW, useWs, useD, nosto, nostos, fz, fzs, dCall, dCall0, argsD, argD, dLst, dTup, dIte, dAnd, dOr, dNot, dNeg, dBm, isTy, mApp, sIx, kItem, rowOf, dSl, kSl, dNo, dSo, kInt, kStr, kRepr, kListOf, kIsi, tyN, dFor, dRow, dRng1, dRng2, dComp, wipeE, dYes, dJoin, dJs, dFmt, kFmt, pkS, kI2, kAbs, okq, eqv, okqs, eqvs, kCat, dsOf_map, nostos_d, fzs_d, List.getElem?_cons_zero, List.getElem?_cons_succ, List.set_cons_zero, List.set_cons_succ, List.length_cons, List.length_nil, Option.bind_some, Option.map_some, if_true, if_false, Bool.false_eq_true, decide_eq_true_eq, true_and, List.length_map, List.map_nil, forL, t__law_first_0_1, retE]
    exact ⟨_, rfl, hk⟩
  | cons x xs =>
    simp only [t__law_first, t__law_first_0_0, dSeq, dNext, dIf, dOrT, dAndT, dNotT, dBl, kBl, dTru, kTru, DL.truD, dOp, dCl, s1, s2, dCons, dNil, dVar, dMov, dC, kLenN, peek, lenW, noDict, lenD, sCmp, sOrd, sEq, kEq, sIn, sIsN, nonW, sInt, sAdd, sMul, sRows, rowD, flat, dsOf, seqW, dRet, dRetN, dDrop, dBrk, dCnt, dAsg, gN, gTp, gsCons, gsNil, DL.gSub, setW, useW, useWs, useD, nosto, nostos, fz, fzs, dCall, dCall0, argsD, argD, dLst, dTup, dIte, dAnd, dOr, dNot, dNeg, dBm, isTy, mApp, sIx, kItem, rowOf, dSl, kSl, dNo, dSo, kInt, kStr, kRepr, kListOf, kIsi, tyN, dFor, dRow, dRng1, dRng2, dComp, wipeE, dYes, dJoin, dJs, dFmt, kFmt, pkS, kI2, kAbs, okq, eqv, okqs, eqvs, kCat, dsOf_map, nostos_d, fzs_d, List.getElem?_cons_zero, List.getElem?_cons_succ, List.set_cons_zero, List.set_cons_succ, List.length_cons, List.length_nil, Option.bind_some, Option.map_some, if_true, if_false, Bool.false_eq_true, decide_eq_true_eq, true_and, List.length_map, List.map_cons, forL, t__law_first_1_0, retE]
    exact ⟨by decide, _, rfl, hk⟩
end Lk27

namespace Lk27
open PySem DL
theorem p__law_spots : ∀ ws k kx, ws.length = 1 → S__law_spots ws k kx → t__law_spots (retE k) (fun x _ => kx x) (startE N__law_spots ws) := by
  rintro ws k kx - ⟨ss, rfl, hs, hl, hk⟩
  rw [se__law_spots]
  simp only [t__law_spots, t__law_spots_0_0, dSeq, dNext, dIf, dOrT, dAndT, dNotT, dBl, kBl, dTru, kTru, DL.truD, dOp, dCl, s1, s2, dCons, dNil, dVar, dMov, dC, kLenN, peek, lenW, noDict, lenD, sCmp, sOrd, sEq, kEq, sIn, sIsN, nonW, sInt, sAdd, sMul, sRows, rowD, flat, dsOf, seqW, dRet, dRetN, dDrop, dBrk, dCnt, dAsg, gN, gTp, gsCons, gsNil, DL.gSub, setW, useW, useWs, useD, nosto, nostos, fz, fzs, dCall, dCall0, argsD, argD, dLst, dTup, dIte, dAnd, dOr, dNot, dNeg, dBm, isTy, mApp, sIx, kItem, rowOf, dSl, kSl, dNo, dSo, kInt, kStr, kRepr, kListOf, kIsi, tyN, dFor, dRow, dRng1, dRng2, dComp, wipeE, dYes, dJoin, dJs, dFmt, kFmt, pkS, kI2, kAbs, okq, eqv, okqs, eqvs, kCat, dsOf_map, nostos_d, fzs_d, List.getElem?_cons_zero, List.getElem?_cons_succ, List.set_cons_zero, List.set_cons_succ, List.length_cons, List.length_nil, Option.bind_some, Option.map_some, if_true, if_false, Bool.false_eq_true, decide_eq_true_eq, true_and, List.length_map, useWs]
  refine ⟨by decide, by decide, ?_⟩
  simp only [t__law_spots_0_1, dSeq, dNext, dIf, dOrT, dAndT, dNotT, dBl, kBl, dTru, kTru, DL.truD, dOp, dCl, s1, s2, dCons, dNil, dVar, dMov, dC, kLenN, peek, lenW, noDict, lenD, sCmp, sOrd, sEq, kEq, sIn, sIsN, nonW, sInt, sAdd, sMul, sRows, rowD, flat, dsOf, seqW, dRet, dRetN, dDrop, dBrk, dCnt, dAsg, gN, gTp, gsCons, gsNil, DL.gSub, setW, useW, useWs, useD, nosto, nostos, fz, fzs, dCall, dCall0, argsD, argD, dLst, dTup, dIte, dAnd, dOr, dNot, dNeg, dBm, isTy, mApp, sIx, kItem, rowOf, dSl, kSl, dNo, dSo, kInt, kStr, kRepr, kListOf, kIsi, tyN, dFor, dRow, dRng1, dRng2, dComp, wipeE, dYes, dJoin, dJs, dFmt, kFmt, pkS, kI2, kAbs, okq, eqv, okqs, eqvs, kCat, dsOf_map, nostos_d, fzs_d, List.getElem?_cons_zero, List.getElem?_cons_succ, List.set_cons_zero, List.set_cons_succ, List.length_cons, List.length_nil, Option.bind_some, Option.map_some, if_true, if_false, Bool.false_eq_true, decide_eq_true_eq, true_and, List.length_map, map_d]
  refine forL_ind (fun r env => ∃ (ss' : List (List Nat)) (acc : List (Option Nat)) (o o2 : Option W), r = ss'.map (fun s => W.d (.str s)) ∧ env = [some (.d (.lst (ss.map .str))), some (.ol (acc.map fun o => W.d (optI o))), o, o2] ∧ acc.length + ss'.length ≤ 10000 ∧ (∀ s ∈ ss', s.length ≤ 10000) ∧ k (spotsW ((rspots ss').map (acc ++ ·)))) (fun w r env K h hK => ?_) ⟨ss, [], none, none, rfl, rfl, by simpa using hs, hl, ?_⟩ (fun e h => ?_)
  · obtain ⟨ss', acc, o, o2, er, rfl, hn, hl', hk'⟩ := h
    cases ss' with
    | nil => cases er
    | cons s ss' =>
      cases er
      have ls := hl' s List.mem_cons_self
      simp only [dSeq, dNext, dIf, dOrT, dAndT, dNotT, dBl, kBl, dTru, kTru, DL.truD, dOp, dCl, s1, s2, dCons, dNil, dVar, dMov, dC, kLenN, peek, lenW, noDict, lenD, sCmp, sOrd, sEq, kEq, sIn, sIsN, nonW, sInt, sAdd, sMul, sRows, rowD, flat, dsOf, seqW, dRet, dRetN, dDrop, dBrk, dCnt, dAsg, gN, gTp, gsCons, gsNil, DL.gSub, setW, useW, useWs, useD, nosto, nostos, fz, fzs, dCall, dCall0, argsD, argD, dLst, dTup, dIte, dAnd, dOr, dNot, dNeg, dBm, isTy, mApp, sIx, kItem, rowOf, dSl, kSl, dNo, dSo, kInt, kStr, kRepr, kListOf, kIsi, tyN, dFor, dRow, dRng1, dRng2, dComp, wipeE, dYes, dJoin, dJs, dFmt, kFmt, pkS, kI2, kAbs, okq, eqv, okqs, eqvs, kCat, dsOf_map, nostos_d, fzs_d, List.getElem?_cons_zero, List.getElem?_cons_succ, List.set_cons_zero, List.set_cons_succ, List.length_cons, List.length_nil, Option.bind_some, Option.map_some, if_true, if_false, Bool.false_eq_true, decide_eq_true_eq, true_and, List.length_map, t__law_spots_1_0]
      refine ⟨by decide, s, rfl, ls, ?_⟩
      cases hq : rspot s with
      | none =>
        have e1 : rspots (s :: ss') = none := by
          show (match rspot s with | some o => (rspots ss').map (o :: ·) | none => none) = _
          rw [hq]
        rw [e1] at hk'
        simp only [dSeq, dNext, dIf, dOrT, dAndT, dNotT, dBl, kBl, dTru, kTru, DL.truD, dOp, dCl, s1, s2, dCons, dNil, dVar, dMov, dC, kLenN, peek, lenW, noDict, lenD, sCmp, sOrd, sEq, kEq, sIn, sIsN, nonW, sInt, sAdd, sMul, sRows, rowD, flat, dsOf, seqW, dRet, dRetN, dDrop, dBrk, dCnt, dAsg, gN, gTp, gsCons, gsNil, DL.gSub, setW, useW, useWs, useD, nosto, nostos, fz, fzs, dCall, dCall0, argsD, argD, dLst, dTup, dIte, dAnd, dOr, dNot, dNeg, dBm, isTy, mApp, sIx, kItem, rowOf, dSl, kSl, dNo, dSo, kInt, kStr, kRepr, kListOf, kIsi, tyN, dFor, dRow, dRng1, dRng2, dComp, wipeE, dYes, dJoin, dJs, dFmt, kFmt, pkS, kI2, kAbs, okq, eqv, okqs, eqvs, kCat, dsOf_map, nostos_d, fzs_d, List.getElem?_cons_zero, List.getElem?_cons_succ, List.set_cons_zero, List.set_cons_succ, List.length_cons, List.length_nil, Option.bind_some, Option.map_some, if_true, if_false, Bool.false_eq_true, decide_eq_true_eq, true_and, List.length_map, Option.toList, List.map_nil, clear, clears, t__law_spots_1_1, useWs]
        refine ⟨by decide, by decide, ?_⟩
        simp only [t__law_spots_2_0, dSeq, dNext, dIf, dOrT, dAndT, dNotT, dBl, kBl, dTru, kTru, DL.truD, dOp, dCl, s1, s2, dCons, dNil, dVar, dMov, dC, kLenN, peek, lenW, noDict, lenD, sCmp, sOrd, sEq, kEq, sIn, sIsN, nonW, sInt, sAdd, sMul, sRows, rowD, flat, dsOf, seqW, dRet, dRetN, dDrop, dBrk, dCnt, dAsg, gN, gTp, gsCons, gsNil, DL.gSub, setW, useW, useWs, useD, nosto, nostos, fz, fzs, dCall, dCall0, argsD, argD, dLst, dTup, dIte, dAnd, dOr, dNot, dNeg, dBm, isTy, mApp, sIx, kItem, rowOf, dSl, kSl, dNo, dSo, kInt, kStr, kRepr, kListOf, kIsi, tyN, dFor, dRow, dRng1, dRng2, dComp, wipeE, dYes, dJoin, dJs, dFmt, kFmt, pkS, kI2, kAbs, okq, eqv, okqs, eqvs, kCat, dsOf_map, nostos_d, fzs_d, List.getElem?_cons_zero, List.getElem?_cons_succ, List.set_cons_zero, List.set_cons_succ, List.length_cons, List.length_nil, Option.bind_some, Option.map_some, if_true, if_false, Bool.false_eq_true, decide_eq_true_eq, true_and, List.length_map, retE]
        exact ⟨_, rfl, hk'⟩
      | some q =>
        have fq : flatL (optI q) = true := by cases q <;> rfl
        have oq : okq 63 (optI q) = true := by cases q <;> rfl
        simp only [dSeq, dNext, dIf, dOrT, dAndT, dNotT, dBl, kBl, dTru, kTru, DL.truD, dOp, dCl, s1, s2, dCons, dNil, dVar, dMov, dC, kLenN, peek, lenW, noDict, lenD, sCmp, sOrd, sEq, kEq, sIn, sIsN, nonW, sInt, sAdd, sMul, sRows, rowD, flat, dsOf, seqW, dRet, dRetN, dDrop, dBrk, dCnt, dAsg, gN, gTp, gsCons, gsNil, DL.gSub, setW, useW, useWs, useD, nosto, nostos, fz, fzs, dCall, dCall0, argsD, argD, dLst, dTup, dIte, dAnd, dOr, dNot, dNeg, dBm, isTy, mApp, sIx, kItem, rowOf, dSl, kSl, dNo, dSo, kInt, kStr, kRepr, kListOf, kIsi, tyN, dFor, dRow, dRng1, dRng2, dComp, wipeE, dYes, dJoin, dJs, dFmt, kFmt, pkS, kI2, kAbs, okq, eqv, okqs, eqvs, kCat, dsOf_map, nostos_d, fzs_d, List.getElem?_cons_zero, List.getElem?_cons_succ, List.set_cons_zero, List.set_cons_succ, List.length_cons, List.length_nil, Option.bind_some, Option.map_some, if_true, if_false, Bool.false_eq_true, decide_eq_true_eq, true_and, List.length_map, Option.toList, List.map_nil, List.map_cons, clear, clears, fq, Bool.and_true, t__law_spots_1_1, useWs]
        refine ⟨by decide, by decide, ?_⟩
        simp only [oq, Bool.and_true, Bool.false_bne, true_and]
        have ea : L2.atI [W.d (optI q)] 0 = some (W.d (optI q)) := L2.atI_nat (j := 0) rfl
        simp only [t__law_spots_1_2, dSeq, dNext, dIf, dOrT, dAndT, dNotT, dBl, kBl, dTru, kTru, DL.truD, dOp, dCl, s1, s2, dCons, dNil, dVar, dMov, dC, kLenN, peek, lenW, noDict, lenD, sCmp, sOrd, sEq, kEq, sIn, sIsN, nonW, sInt, sAdd, sMul, sRows, rowD, flat, dsOf, seqW, dRet, dRetN, dDrop, dBrk, dCnt, dAsg, gN, gTp, gsCons, gsNil, DL.gSub, setW, useW, useWs, useD, nosto, nostos, fz, fzs, dCall, dCall0, argsD, argD, dLst, dTup, dIte, dAnd, dOr, dNot, dNeg, dBm, isTy, mApp, sIx, kItem, rowOf, dSl, kSl, dNo, dSo, kInt, kStr, kRepr, kListOf, kIsi, tyN, dFor, dRow, dRng1, dRng2, dComp, wipeE, dYes, dJoin, dJs, dFmt, kFmt, pkS, kI2, kAbs, okq, eqv, okqs, eqvs, kCat, dsOf_map, nostos_d, fzs_d, List.getElem?_cons_zero, List.getElem?_cons_succ, List.set_cons_zero, List.set_cons_succ, List.length_cons, List.length_nil, Option.bind_some, Option.map_some, if_true, if_false, Bool.false_eq_true, decide_eq_true_eq, true_and, List.length_map, ea, useWs]
        refine ⟨szl (by simp only [List.length_map, List.length_cons] at hn ⊢; omega), hK _ ⟨ss', acc ++ [q], some (.d (.str s)), some (.ol [W.d (optI q)]), rfl, ?_, ?_, fun s m => hl' s (List.mem_cons_of_mem _ m), ?_⟩⟩
        · rw [List.map_append]; rfl
        · simp only [List.length_append, List.length_cons, List.length_nil] at hn ⊢; omega
        · have e1 : rspots (s :: ss') = (rspots ss').map (q :: ·) := by
            show (match rspot s with | some o => (rspots ss').map (o :: ·) | none => none) = _
            rw [hq]
          rw [e1, Option.map_map] at hk'
          have e2 : ((acc ++ ·) ∘ (q :: ·)) = (((acc ++ [q]) ++ ·) : List (Option Nat) → List (Option Nat)) := funext fun x => by simp
          rwa [e2] at hk'
  · rw [show (([] : List (Option Nat)) ++ ·) = (id : List (Option Nat) → _) from funext fun x => List.nil_append x, Option.map_id]; exact hk
  · obtain ⟨ss', acc, o, o2, er, rfl, _, _, hk'⟩ := h
    cases ss' with
    | cons _ _ => cases er
    | nil =>
      simp only [t__law_spots_0_2, dSeq, dNext, dIf, dOrT, dAndT, dNotT, dBl, kBl, dTru, kTru, DL.truD, dOp, dCl, s1, s2, dCons, dNil, dVar, dMov, dC, kLenN, peek, lenW, noDict, lenD, sCmp, sOrd, sEq, kEq, sIn, sIsN, nonW, sInt, sAdd, sMul, sRows, rowD, flat, dsOf, seqW, dRet, dRetN, dDrop, dBrk, dCnt, dAsg, gN, gTp, gsCons, gsNil, DL.gSub, setW, useW, useWs, useD, nosto, nostos, fz, fzs, dCall, dCall0, argsD, argD, dLst, dTup, dIte, dAnd, dOr, dNot, dNeg, dBm, isTy, mApp, sIx, kItem, rowOf, dSl, kSl, dNo, dSo, kInt, kStr, kRepr, kListOf, kIsi, tyN, dFor, dRow, dRng1, dRng2, dComp, wipeE, dYes, dJoin, dJs, dFmt, kFmt, pkS, kI2, kAbs, okq, eqv, okqs, eqvs, kCat, dsOf_map, nostos_d, fzs_d, List.getElem?_cons_zero, List.getElem?_cons_succ, List.set_cons_zero, List.set_cons_succ, List.length_cons, List.length_nil, Option.bind_some, Option.map_some, if_true, if_false, Bool.false_eq_true, decide_eq_true_eq, true_and, List.length_map, retE]
      refine ⟨_, rfl, ?_⟩
      simpa [rspots, spotsW] using hk'
theorem atI_end {α : Type} (l : List α) (x : α) : L2.atI (l ++ [x]) (((l ++ [x]).length : Int) - 1) = some x := by
  have e : ((l ++ [x]).length : Int) - 1 = (l.length : Nat) := by rw [List.length_append]; simp
  rw [e]
  exact L2.atI_nat (by simp)
theorem ixN_end {α : Type} (l : List α) (x : α) : L2.ixN (l ++ [x]).length (((l ++ [x]).length : Int) - 1) = some l.length := by
  have e : ((l ++ [x]).length : Int) - 1 = (l.length : Nat) := by rw [List.length_append]; simp
  rw [e]
  unfold L2.ixN
  rw [if_pos (Int.natCast_nonneg _), if_pos (by rw [List.length_append]; simp; omega), Int.toNat_natCast]
theorem set_end {α : Type} (l : List α) (x y : α) : (l ++ [x]).set l.length y = l ++ [y] := by
  rw [List.set_append_right _ _ (Nat.le_refl _), Nat.sub_self]; rfl
theorem p__law_parted : ∀ ws k kx, ws.length = 1 → S__law_parted ws k kx → t__law_parted (retE k) (fun x _ => kx x) (startE N__law_parted ws) := by
  rintro ws k kx - ⟨s, rfl, hs, hk⟩
  rw [se__law_parted]
  have hl : s.length ≤ sizeLine := szl (by omega)
  simp only [t__law_parted, t__law_parted_0_0, dSeq, dNext, dIf, dOrT, dAndT, dNotT, dBl, kBl, dTru, kTru, DL.truD, dOp, dCl, s1, s2, dCons, dNil, dVar, dMov, dC, kLenN, peek, lenW, noDict, lenD, sCmp, sOrd, sEq, kEq, sIn, sIsN, nonW, sInt, sAdd, sMul, sRows, rowD, flat, dsOf, seqW, dRet, dRetN, dDrop, dBrk, dCnt, dAsg, gN, gTp, gsCons, gsNil, DL.gSub, setW, useW, useWs, useD, nosto, nostos, fz, fzs, dCall, dCall0, argsD, argD, dLst, dTup, dIte, dAnd, dOr, dNot, dNeg, dBm, isTy, mApp, sIx, kItem, rowOf, dSl, kSl, dNo, dSo, kInt, kStr, kRepr, kListOf, kIsi, tyN, dFor, dRow, dRng1, dRng2, dComp, wipeE, dYes, dJoin, dJs, dFmt, kFmt, pkS, kI2, kAbs, okq, eqv, okqs, eqvs, kCat, dsOf_map, nostos_d, fzs_d, List.getElem?_cons_zero, List.getElem?_cons_succ, List.set_cons_zero, List.set_cons_succ, List.length_cons, List.length_nil, Option.bind_some, Option.map_some, if_true, if_false, Bool.false_eq_true, decide_eq_true_eq, true_and, List.length_map, useWs]
  refine ⟨by decide, by decide, by decide, ?_⟩
  simp only [t__law_parted_0_1, dSeq, dNext, dIf, dOrT, dAndT, dNotT, dBl, kBl, dTru, kTru, DL.truD, dOp, dCl, s1, s2, dCons, dNil, dVar, dMov, dC, kLenN, peek, lenW, noDict, lenD, sCmp, sOrd, sEq, kEq, sIn, sIsN, nonW, sInt, sAdd, sMul, sRows, rowD, flat, dsOf, seqW, dRet, dRetN, dDrop, dBrk, dCnt, dAsg, gN, gTp, gsCons, gsNil, DL.gSub, setW, useW, useWs, useD, nosto, nostos, fz, fzs, dCall, dCall0, argsD, argD, dLst, dTup, dIte, dAnd, dOr, dNot, dNeg, dBm, isTy, mApp, sIx, kItem, rowOf, dSl, kSl, dNo, dSo, kInt, kStr, kRepr, kListOf, kIsi, tyN, dFor, dRow, dRng1, dRng2, dComp, wipeE, dYes, dJoin, dJs, dFmt, kFmt, pkS, kI2, kAbs, okq, eqv, okqs, eqvs, kCat, dsOf_map, nostos_d, fzs_d, List.getElem?_cons_zero, List.getElem?_cons_succ, List.set_cons_zero, List.set_cons_succ, List.length_cons, List.length_nil, Option.bind_some, Option.map_some, if_true, if_false, Bool.false_eq_true, decide_eq_true_eq, true_and, List.length_map]
  refine forL_ind (fun r env => ∃ (v acc : List Nat) (cl : List (List Nat)) (o : Option W), r = v.map (fun c => W.d (.str [c])) ∧ env = [some (.d (.str s)), some (.ol (cl.map (fun s => W.d (.str s)) ++ [W.d (.str acc)])), o] ∧ cl.length + v.length ≤ 10000 ∧ acc.length + v.length ≤ 10000 ∧ TL.spl [32] 0 [] s = cl ++ TL.spl [32] 0 acc v) (fun w r env K h hK => ?_) ⟨s, [], [], none, rfl, rfl, by simpa using hs, by simpa using hs, rfl⟩ (fun e h => ?_)
  · obtain ⟨v, acc, cl, o, er, rfl, n1, n2, e⟩ := h
    cases v with
    | nil => cases er
    | cons c v =>
      cases er
      simp only [List.length_cons] at n1 n2
      have e1 : TL.spl [32] 0 acc (c :: v) = if c = 32 then acc :: TL.spl [32] 0 [] v else TL.spl [32] 0 (acc ++ [c]) v := by
        show (if TL.pre [32] (c :: v) = true then acc :: TL.spl [32] 0 [] v else TL.spl [32] 0 (acc ++ [c]) v) = _
        have : TL.pre [32] (c :: v) = decide (c = 32) := by
          rw [Bool.eq_iff_iff]; simp [TL.pre]
        rw [this]
        by_cases h : c = 32
        · rw [if_pos h, if_pos (decide_eq_true h)]
        · rw [if_neg h, if_neg (by rw [decide_eq_false h]; decide)]
      rw [e1] at e
      simp only [dSeq, dNext, dIf, dOrT, dAndT, dNotT, dBl, kBl, dTru, kTru, DL.truD, dOp, dCl, s1, s2, dCons, dNil, dVar, dMov, dC, kLenN, peek, lenW, noDict, lenD, sCmp, sOrd, sEq, kEq, sIn, sIsN, nonW, sInt, sAdd, sMul, sRows, rowD, flat, dsOf, seqW, dRet, dRetN, dDrop, dBrk, dCnt, dAsg, gN, gTp, gsCons, gsNil, DL.gSub, setW, useW, useWs, useD, nosto, nostos, fz, fzs, dCall, dCall0, argsD, argD, dLst, dTup, dIte, dAnd, dOr, dNot, dNeg, dBm, isTy, mApp, sIx, kItem, rowOf, dSl, kSl, dNo, dSo, kInt, kStr, kRepr, kListOf, kIsi, tyN, dFor, dRow, dRng1, dRng2, dComp, wipeE, dYes, dJoin, dJs, dFmt, kFmt, pkS, kI2, kAbs, okq, eqv, okqs, eqvs, kCat, dsOf_map, nostos_d, fzs_d, List.getElem?_cons_zero, List.getElem?_cons_succ, List.set_cons_zero, List.set_cons_succ, List.length_cons, List.length_nil, Option.bind_some, Option.map_some, if_true, if_false, Bool.false_eq_true, decide_eq_true_eq, true_and, List.length_map, t__law_parted_2_0, Bool.false_bne]
      refine ⟨by decide, ?_⟩
      by_cases h1 : c = 32
      · subst h1
        rw [if_pos rfl] at e
        rw [if_pos (by decide)]
        simp only [dSeq, dNext, dIf, dOrT, dAndT, dNotT, dBl, kBl, dTru, kTru, DL.truD, dOp, dCl, s1, s2, dCons, dNil, dVar, dMov, dC, kLenN, peek, lenW, noDict, lenD, sCmp, sOrd, sEq, kEq, sIn, sIsN, nonW, sInt, sAdd, sMul, sRows, rowD, flat, dsOf, seqW, dRet, dRetN, dDrop, dBrk, dCnt, dAsg, gN, gTp, gsCons, gsNil, DL.gSub, setW, useW, useWs, useD, nosto, nostos, fz, fzs, dCall, dCall0, argsD, argD, dLst, dTup, dIte, dAnd, dOr, dNot, dNeg, dBm, isTy, mApp, sIx, kItem, rowOf, dSl, kSl, dNo, dSo, kInt, kStr, kRepr, kListOf, kIsi, tyN, dFor, dRow, dRng1, dRng2, dComp, wipeE, dYes, dJoin, dJs, dFmt, kFmt, pkS, kI2, kAbs, okq, eqv, okqs, eqvs, kCat, dsOf_map, nostos_d, fzs_d, List.getElem?_cons_zero, List.getElem?_cons_succ, List.set_cons_zero, List.set_cons_succ, List.length_cons, List.length_nil, Option.bind_some, Option.map_some, if_true, if_false, Bool.false_eq_true, decide_eq_true_eq, true_and, List.length_map, t__law_parted_3_0]
        refine ⟨szl (by simp only [List.length_map, List.length_append, List.length_cons, List.length_nil]; omega), hK _ ⟨v, [], cl ++ [acc], some (.d (.str [32])), rfl, ?_, by simp only [List.length_append, List.length_cons, List.length_nil]; omega, by simp only [List.length_nil]; omega, by rw [e, List.append_assoc]; rfl⟩⟩
        rw [List.map_append]; rfl
      · rw [if_neg h1] at e
        rw [if_neg (by simpa using h1)]
        simp only [dSeq, dNext, dIf, dOrT, dAndT, dNotT, dBl, kBl, dTru, kTru, DL.truD, dOp, dCl, s1, s2, dCons, dNil, dVar, dMov, dC, kLenN, peek, lenW, noDict, lenD, sCmp, sOrd, sEq, kEq, sIn, sIsN, nonW, sInt, sAdd, sMul, sRows, rowD, flat, dsOf, seqW, dRet, dRetN, dDrop, dBrk, dCnt, dAsg, gN, gTp, gsCons, gsNil, DL.gSub, setW, useW, useWs, useD, nosto, nostos, fz, fzs, dCall, dCall0, argsD, argD, dLst, dTup, dIte, dAnd, dOr, dNot, dNeg, dBm, isTy, mApp, sIx, kItem, rowOf, dSl, kSl, dNo, dSo, kInt, kStr, kRepr, kListOf, kIsi, tyN, dFor, dRow, dRng1, dRng2, dComp, wipeE, dYes, dJoin, dJs, dFmt, kFmt, pkS, kI2, kAbs, okq, eqv, okqs, eqvs, kCat, dsOf_map, nostos_d, fzs_d, List.getElem?_cons_zero, List.getElem?_cons_succ, List.set_cons_zero, List.set_cons_succ, List.length_cons, List.length_nil, Option.bind_some, Option.map_some, if_true, if_false, Bool.false_eq_true, decide_eq_true_eq, true_and, List.length_map, t__law_parted_4_0]
        simp only [atI_end, ixN_end, set_end]
        refine ⟨Nat.zero_le _, szl (by simp only [List.length_cons, List.length_nil]; omega), Nat.zero_le _, hK _ ⟨v, acc ++ [c], cl, some (.d (.str [c])), rfl, rfl, by omega, by simp only [List.length_append, List.length_cons, List.length_nil]; omega, e⟩⟩
  · obtain ⟨v, acc, cl, o, er, rfl, n1, n2, e⟩ := h
    cases v with
    | cons _ _ => cases er
    | nil =>
      rw [TL.spl_nil] at e
      unfold parts at hk
      simp only [t__law_parted_0_2, dSeq, dNext, dIf, dOrT, dAndT, dNotT, dBl, kBl, dTru, kTru, DL.truD, dOp, dCl, s1, s2, dCons, dNil, dVar, dMov, dC, kLenN, peek, lenW, noDict, lenD, sCmp, sOrd, sEq, kEq, sIn, sIsN, nonW, sInt, sAdd, sMul, sRows, rowD, flat, dsOf, seqW, dRet, dRetN, dDrop, dBrk, dCnt, dAsg, gN, gTp, gsCons, gsNil, DL.gSub, setW, useW, useWs, useD, nosto, nostos, fz, fzs, dCall, dCall0, argsD, argD, dLst, dTup, dIte, dAnd, dOr, dNot, dNeg, dBm, isTy, mApp, sIx, kItem, rowOf, dSl, kSl, dNo, dSo, kInt, kStr, kRepr, kListOf, kIsi, tyN, dFor, dRow, dRng1, dRng2, dComp, wipeE, dYes, dJoin, dJs, dFmt, kFmt, pkS, kI2, kAbs, okq, eqv, okqs, eqvs, kCat, dsOf_map, nostos_d, fzs_d, List.getElem?_cons_zero, List.getElem?_cons_succ, List.set_cons_zero, List.set_cons_succ, List.length_cons, List.length_nil, Option.bind_some, Option.map_some, if_true, if_false, Bool.false_eq_true, decide_eq_true_eq, true_and, List.length_map, Bool.false_bne]
      by_cases h : s = []
      · subst h
        rw [if_pos rfl] at hk
        rw [if_pos (by decide)]
        simp only [t__law_parted_1_0, dSeq, dNext, dIf, dOrT, dAndT, dNotT, dBl, kBl, dTru, kTru, DL.truD, dOp, dCl, s1, s2, dCons, dNil, dVar, dMov, dC, kLenN, peek, lenW, noDict, lenD, sCmp, sOrd, sEq, kEq, sIn, sIsN, nonW, sInt, sAdd, sMul, sRows, rowD, flat, dsOf, seqW, dRet, dRetN, dDrop, dBrk, dCnt, dAsg, gN, gTp, gsCons, gsNil, DL.gSub, setW, useW, useWs, useD, nosto, nostos, fz, fzs, dCall, dCall0, argsD, argD, dLst, dTup, dIte, dAnd, dOr, dNot, dNeg, dBm, isTy, mApp, sIx, kItem, rowOf, dSl, kSl, dNo, dSo, kInt, kStr, kRepr, kListOf, kIsi, tyN, dFor, dRow, dRng1, dRng2, dComp, wipeE, dYes, dJoin, dJs, dFmt, kFmt, pkS, kI2, kAbs, okq, eqv, okqs, eqvs, kCat, dsOf_map, nostos_d, fzs_d, List.getElem?_cons_zero, List.getElem?_cons_succ, List.set_cons_zero, List.set_cons_succ, List.length_cons, List.length_nil, Option.bind_some, Option.map_some, if_true, if_false, Bool.false_eq_true, decide_eq_true_eq, true_and, List.length_map, useWs, retE]
        exact ⟨by decide, _, rfl, hk⟩
      · rw [if_neg h] at hk
        rw [if_neg (by simpa using h)]
        simp only [t__law_parted_0_3, dSeq, dNext, dIf, dOrT, dAndT, dNotT, dBl, kBl, dTru, kTru, DL.truD, dOp, dCl, s1, s2, dCons, dNil, dVar, dMov, dC, kLenN, peek, lenW, noDict, lenD, sCmp, sOrd, sEq, kEq, sIn, sIsN, nonW, sInt, sAdd, sMul, sRows, rowD, flat, dsOf, seqW, dRet, dRetN, dDrop, dBrk, dCnt, dAsg, gN, gTp, gsCons, gsNil, DL.gSub, setW, useW, useWs, useD, nosto, nostos, fz, fzs, dCall, dCall0, argsD, argD, dLst, dTup, dIte, dAnd, dOr, dNot, dNeg, dBm, isTy, mApp, sIx, kItem, rowOf, dSl, kSl, dNo, dSo, kInt, kStr, kRepr, kListOf, kIsi, tyN, dFor, dRow, dRng1, dRng2, dComp, wipeE, dYes, dJoin, dJs, dFmt, kFmt, pkS, kI2, kAbs, okq, eqv, okqs, eqvs, kCat, dsOf_map, nostos_d, fzs_d, List.getElem?_cons_zero, List.getElem?_cons_succ, List.set_cons_zero, List.set_cons_succ, List.length_cons, List.length_nil, Option.bind_some, Option.map_some, if_true, if_false, Bool.false_eq_true, decide_eq_true_eq, true_and, List.length_map, retE]
        refine ⟨_, rfl, ?_⟩
        rw [e] at hk
        unfold strW at hk
        rw [List.map_append] at hk
        exact hk
end Lk27

namespace Lk27
open PySem DL
theorem kb_ll : L2.kitB "list" "list" = some true := by decide +kernel
theorem kb_lt : L2.kitB "list" "tuple" = some false := by decide +kernel
theorem kb_tl : L2.kitB "tuple" "list" = some false := by decide +kernel
theorem kb_tt : L2.kitB "tuple" "tuple" = some true := by decide +kernel
theorem kb_nl : L2.kitB "NoneType" "list" = some false := by decide +kernel
theorem kb_nt : L2.kitB "NoneType" "tuple" = some false := by decide +kernel
theorem kb_bl : L2.kitB "bool" "list" = some false := by decide +kernel
theorem kb_bt : L2.kitB "bool" "tuple" = some false := by decide +kernel
theorem kb_bb : L2.kitB "bool" "bool" = some true := by decide +kernel
theorem kb_il : L2.kitB "int" "list" = some false := by decide +kernel
theorem kb_it : L2.kitB "int" "tuple" = some false := by decide +kernel
theorem kb_ib : L2.kitB "int" "bool" = some false := by decide +kernel
theorem kb_ii : L2.kitB "int" "int" = some true := by decide +kernel
theorem kb_sl : L2.kitB "str" "list" = some false := by decide +kernel
theorem kb_st : L2.kitB "str" "tuple" = some false := by decide +kernel
theorem kb_sb : L2.kitB "str" "bool" = some false := by decide +kernel
theorem kb_si : L2.kitB "str" "int" = some false := by decide +kernel
theorem kb_ss : L2.kitB "str" "str" = some true := by decide +kernel
theorem szs_app : ∀ (a b : List D), szs (a ++ b) = szs a + szs b
  | [], b => by show szs b = 0 + szs b; omega
  | x :: a, b => by show szD x + szs (a ++ b) = szD x + szs a + szs b; rw [szs_app]; omega
theorem plns_app : ∀ (a b : List D), plns (a ++ b) = (plns a && plns b)
  | [], b => rfl
  | x :: a, b => by show (pln x && plns (a ++ b)) = (pln x && plns a && plns b); rw [plns_app, Bool.and_assoc]
theorem szD_pos (x : D) : 1 ≤ szD x := by cases x <;> simp only [szD] <;> omega
theorem szs_len : ∀ a : List D, a.length ≤ szs a
  | [] => Nat.le_refl _
  | x :: a => by have := szD_pos x; have := szs_len a; show a.length + 1 ≤ szD x + szs a; omega
theorem kids_sz (x : D) : szs (kids x) + 1 ≤ szD x := by cases x <;> simp only [kids, szD, szs] <;> omega
theorem kids_pln {x : D} (h : pln x = true) : plns (kids x) = true := by cases x <;> first | exact h | rfl
theorem getLast_snoc {α : Type} (l : List α) (x : α) : (l ++ [x]).getLast? = some x := by simp
theorem at01 (b : Bool) : L2.atI [108, 116] (if b then 1 else 0) = some (if b then 116 else 108) := by cases b <;> rfl
theorem p__law_plain : ∀ ws k kx, ws.length = 1 → S__law_plain ws k kx → t__law_plain (retE k) (fun x _ => kx x) (startE N__law_plain ws) := by
  rintro ws k kx - ⟨x0, rfl, hp, hs, hk⟩
  rw [se__law_plain]
  simp only [t__law_plain, t__law_plain_0_0, dSeq, dNext, dIf, dOrT, dAndT, dNotT, dBl, kBl, dTru, kTru, DL.truD, dOp, dCl, s1, s2, dCons, dNil, dVar, dMov, dC, kLenN, peek, lenW, noDict, lenD, sCmp, sOrd, sEq, kEq, sIn, sIsN, nonW, sInt, sAdd, sMul, sRows, rowD, flat, dsOf, seqW, dRet, dRetN, dDrop, dBrk, dCnt, dAsg, gN, gTp, gsCons, gsNil, DL.gSub, setW, useW, useWs, useD, nosto, nostos, fz, fzs, dCall, dCall0, argsD, argD, dLst, dTup, dIte, dAnd, dOr, dNot, dNeg, dBm, isTy, mApp, sIx, kItem, rowOf, dSl, kSl, dNo, dSo, kInt, kStr, kRepr, kListOf, kIsi, tyN, dFor, dRow, dRng1, dRng2, dComp, wipeE, dYes, dJoin, dJs, dFmt, kFmt, pkS, kI2, kAbs, okq, eqv, okqs, eqvs, kCat, dsOf_map, nostos_d, fzs_d, List.getElem?_cons_zero, List.getElem?_cons_succ, List.set_cons_zero, List.set_cons_succ, List.length_cons, List.length_nil, Option.bind_some, Option.map_some, if_true, if_false, Bool.false_eq_true, decide_eq_true_eq, true_and, List.length_map, useWs]
  refine ⟨by decide, by decide, by decide, ?_⟩
  simp only [t__law_plain_0_1, dSeq, dNext, dIf, dOrT, dAndT, dNotT, dBl, kBl, dTru, kTru, DL.truD, dOp, dCl, s1, s2, dCons, dNil, dVar, dMov, dC, kLenN, peek, lenW, noDict, lenD, sCmp, sOrd, sEq, kEq, sIn, sIsN, nonW, sInt, sAdd, sMul, sRows, rowD, flat, dsOf, seqW, dRet, dRetN, dDrop, dBrk, dCnt, dAsg, gN, gTp, gsCons, gsNil, DL.gSub, setW, useW, useWs, useD, nosto, nostos, fz, fzs, dCall, dCall0, argsD, argD, dLst, dTup, dIte, dAnd, dOr, dNot, dNeg, dBm, isTy, mApp, sIx, kItem, rowOf, dSl, kSl, dNo, dSo, kInt, kStr, kRepr, kListOf, kIsi, tyN, dFor, dRow, dRng1, dRng2, dComp, wipeE, dYes, dJoin, dJs, dFmt, kFmt, pkS, kI2, kAbs, okq, eqv, okqs, eqvs, kCat, dsOf_map, nostos_d, fzs_d, List.getElem?_cons_zero, List.getElem?_cons_succ, List.set_cons_zero, List.set_cons_succ, List.length_cons, List.length_nil, Option.bind_some, Option.map_some, if_true, if_false, Bool.false_eq_true, decide_eq_true_eq, true_and, List.length_map, useWs]
  refine ⟨by decide, by decide, ?_⟩
  simp only [t__law_plain_0_2, dSeq, dNext, dIf, dOrT, dAndT, dNotT, dBl, kBl, dTru, kTru, DL.truD, dOp, dCl, s1, s2, dCons, dNil, dVar, dMov, dC, kLenN, peek, lenW, noDict, lenD, sCmp, sOrd, sEq, kEq, sIn, sIsN, nonW, sInt, sAdd, sMul, sRows, rowD, flat, dsOf, seqW, dRet, dRetN, dDrop, dBrk, dCnt, dAsg, gN, gTp, gsCons, gsNil, DL.gSub, setW, useW, useWs, useD, nosto, nostos, fz, fzs, dCall, dCall0, argsD, argD, dLst, dTup, dIte, dAnd, dOr, dNot, dNeg, dBm, isTy, mApp, sIx, kItem, rowOf, dSl, kSl, dNo, dSo, kInt, kStr, kRepr, kListOf, kIsi, tyN, dFor, dRow, dRng1, dRng2, dComp, wipeE, dYes, dJoin, dJs, dFmt, kFmt, pkS, kI2, kAbs, okq, eqv, okqs, eqvs, kCat, dsOf_map, nostos_d, fzs_d, List.getElem?_cons_zero, List.getElem?_cons_succ, List.set_cons_zero, List.set_cons_succ, List.length_cons, List.length_nil, Option.bind_some, Option.map_some, if_true, if_false, Bool.false_eq_true, decide_eq_true_eq, true_and, List.length_map]
  refine ⟨⟨by decide, by decide⟩, ?_⟩
  have fin : ∀ st out o3 o4, k (.ol (List.map partW out)) → t__law_plain_0_3 (retE k) (fun x _ => kx x) [some (.d x0), some (.ol st), some (.ol (out.map partW)), o3, o4] := fun st out o3 o4 h => by
    simp only [t__law_plain_0_3, dSeq, dNext, dIf, dOrT, dAndT, dNotT, dBl, kBl, dTru, kTru, DL.truD, dOp, dCl, s1, s2, dCons, dNil, dVar, dMov, dC, kLenN, peek, lenW, noDict, lenD, sCmp, sOrd, sEq, kEq, sIn, sIsN, nonW, sInt, sAdd, sMul, sRows, rowD, flat, dsOf, seqW, dRet, dRetN, dDrop, dBrk, dCnt, dAsg, gN, gTp, gsCons, gsNil, DL.gSub, setW, useW, useWs, useD, nosto, nostos, fz, fzs, dCall, dCall0, argsD, argD, dLst, dTup, dIte, dAnd, dOr, dNot, dNeg, dBm, isTy, mApp, sIx, kItem, rowOf, dSl, kSl, dNo, dSo, kInt, kStr, kRepr, kListOf, kIsi, tyN, dFor, dRow, dRng1, dRng2, dComp, wipeE, dYes, dJoin, dJs, dFmt, kFmt, pkS, kI2, kAbs, okq, eqv, okqs, eqvs, kCat, dsOf_map, nostos_d, fzs_d, List.getElem?_cons_zero, List.getElem?_cons_succ, List.set_cons_zero, List.set_cons_succ, List.length_cons, List.length_nil, Option.bind_some, Option.map_some, if_true, if_false, Bool.false_eq_true, decide_eq_true_eq, true_and, List.length_map, retE]
    exact ⟨_, rfl, h⟩
  refine forL_ind (items := rangeW 0 (40000 : Int).toNat) (fun r env => ∃ (st : List D) (out : List (List Nat × D)) (o3 o4 : Option W), env = [some (.d x0), some (.ol (st.map .d)), some (.ol (out.map partW)), o3, o4] ∧ (∀ w ∈ r, ∃ i, w = .d (.int i)) ∧ plns st = true ∧ szs st ≤ 100000 ∧ out.length + r.length ≤ 40000 ∧ k (.ol ((plain r.length st out).map partW))) (fun w r env K h hK => ?_) ⟨[x0], [], none, none, rfl, fun w m => ?_, by show (pln x0 && true) = true; rw [hp]; rfl, by show szD x0 + 0 ≤ _; omega, by rw [rangeW_len]; decide, by rw [rangeW_len]; exact hk⟩ (fun e h => ?_)
  · obtain ⟨st, out, o3, o4, rfl, hw, hpl, hsz, hn, hk'⟩ := h
    obtain ⟨i, rfl⟩ := hw _ List.mem_cons_self
    have hw' : ∀ w ∈ r, ∃ i, w = .d (.int i) := fun w m => hw w (List.mem_cons_of_mem _ m)
    simp only [List.length_cons] at hn hk'
    simp only [dSeq, dNext, dIf, dOrT, dAndT, dNotT, dBl, kBl, dTru, kTru, DL.truD, dOp, dCl, s1, s2, dCons, dNil, dVar, dMov, dC, kLenN, peek, lenW, noDict, lenD, sCmp, sOrd, sEq, kEq, sIn, sIsN, nonW, sInt, sAdd, sMul, sRows, rowD, flat, dsOf, seqW, dRet, dRetN, dDrop, dBrk, dCnt, dAsg, gN, gTp, gsCons, gsNil, DL.gSub, setW, useW, useWs, useD, nosto, nostos, fz, fzs, dCall, dCall0, argsD, argD, dLst, dTup, dIte, dAnd, dOr, dNot, dNeg, dBm, isTy, mApp, sIx, kItem, rowOf, dSl, kSl, dNo, dSo, kInt, kStr, kRepr, kListOf, kIsi, tyN, dFor, dRow, dRng1, dRng2, dComp, wipeE, dYes, dJoin, dJs, dFmt, kFmt, pkS, kI2, kAbs, okq, eqv, okqs, eqvs, kCat, dsOf_map, nostos_d, fzs_d, List.getElem?_cons_zero, List.getElem?_cons_succ, List.set_cons_zero, List.set_cons_succ, List.length_cons, List.length_nil, Option.bind_some, Option.map_some, if_true, if_false, Bool.false_eq_true, decide_eq_true_eq, true_and, List.length_map, t__law_plain_1_0, Bool.false_bne, List.length_map]
    refine ⟨by decide, Nat.zero_le _, ?_⟩
    rcases List.eq_nil_or_concat st with rfl | ⟨st', x, rfl⟩
    · simp only [List.length_nil, dSeq, dNext, dIf, dOrT, dAndT, dNotT, dBl, kBl, dTru, kTru, DL.truD, dOp, dCl, s1, s2, dCons, dNil, dVar, dMov, dC, kLenN, peek, lenW, noDict, lenD, sCmp, sOrd, sEq, kEq, sIn, sIsN, nonW, sInt, sAdd, sMul, sRows, rowD, flat, dsOf, seqW, dRet, dRetN, dDrop, dBrk, dCnt, dAsg, gN, gTp, gsCons, gsNil, DL.gSub, setW, useW, useWs, useD, nosto, nostos, fz, fzs, dCall, dCall0, argsD, argD, dLst, dTup, dIte, dAnd, dOr, dNot, dNeg, dBm, isTy, mApp, sIx, kItem, rowOf, dSl, kSl, dNo, dSo, kInt, kStr, kRepr, kListOf, kIsi, tyN, dFor, dRow, dRng1, dRng2, dComp, wipeE, dYes, dJoin, dJs, dFmt, kFmt, pkS, kI2, kAbs, okq, eqv, okqs, eqvs, kCat, dsOf_map, nostos_d, fzs_d, List.getElem?_cons_zero, List.getElem?_cons_succ, List.set_cons_zero, List.set_cons_succ, List.length_cons, List.length_nil, Option.bind_some, Option.map_some, if_true, if_false, Bool.false_eq_true, decide_eq_true_eq, true_and, List.length_map, t__law_plain_10_0]
      exact fin _ _ _ _ hk'
    · rw [List.concat_eq_append] at *
      have hk2 : k (.ol ((plain r.length (st' ++ kids x) (out ++ [part1 x])).map partW)) := by
        have e : plain (r.length + 1) (st' ++ [x]) out = plain r.length (st' ++ kids x) (out ++ [part1 x]) := by
          show (match (st' ++ [x]).getLast? with | none => out | some y => plain r.length ((st' ++ [x]).dropLast ++ kids y) (out ++ [part1 y])) = _
          rw [getLast_snoc, List.dropLast_concat]
        rwa [e] at hk'
      rw [plns_app] at hpl
      obtain ⟨hp1, hp2⟩ := band hpl
      have hpx : pln x = true := (band (show (pln x && true) = true from hp2)).1
      rw [szs_app] at hsz
      have hsz : szs st' + (szD x + 0) ≤ 100000 := hsz
      have hkz := kids_sz x
      have ls := szs_len (st' ++ kids x)
      have lk := szs_len (kids x)
      have lt := szs_len st'
      rw [szs_app] at ls
      have next : ∀ o3 o4, K [some (.d x0), some (.ol ((st' ++ kids x).map .d)), some (.ol (out.map partW ++ [partW (part1 x)])), o3, o4] := fun o3 o4 =>
        hK _ ⟨st' ++ kids x, out ++ [part1 x], o3, o4, by rw [List.map_append (l₁ := out)]; rfl, hw', by rw [plns_app, hp1, kids_pln hpx]; rfl, by rw [szs_app]; omega, by rw [List.length_append]; simp only [List.length_cons, List.length_nil]; omega, hk2⟩
      rw [if_neg (by simp; omega)]
      have lo : (out.map partW).length < sizeLine := by rw [List.length_map, sizeLine_eq]; omega
      have eg : ((st' ++ [x]).map W.d).getLast? = some (W.d x) := by rw [List.map_append]; exact getLast_snoc _ _
      have ed : ((st' ++ [x]).map W.d).dropLast = st'.map W.d := by rw [List.map_append]; exact List.dropLast_concat ..
      simp only [t__law_plain_1_1, dSeq, dNext, dIf, dOrT, dAndT, dNotT, dBl, kBl, dTru, kTru, DL.truD, dOp, dCl, s1, s2, dCons, dNil, dVar, dMov, dC, kLenN, peek, lenW, noDict, lenD, sCmp, sOrd, sEq, kEq, sIn, sIsN, nonW, sInt, sAdd, sMul, sRows, rowD, flat, dsOf, seqW, dRet, dRetN, dDrop, dBrk, dCnt, dAsg, gN, gTp, gsCons, gsNil, DL.gSub, setW, useW, useWs, useD, nosto, nostos, fz, fzs, dCall, dCall0, argsD, argD, dLst, dTup, dIte, dAnd, dOr, dNot, dNeg, dBm, isTy, mApp, sIx, kItem, rowOf, dSl, kSl, dNo, dSo, kInt, kStr, kRepr, kListOf, kIsi, tyN, dFor, dRow, dRng1, dRng2, dComp, wipeE, dYes, dJoin, dJs, dFmt, kFmt, pkS, kI2, kAbs, okq, eqv, okqs, eqvs, kCat, dsOf_map, nostos_d, fzs_d, List.getElem?_cons_zero, List.getElem?_cons_succ, List.set_cons_zero, List.set_cons_succ, List.length_cons, List.length_nil, Option.bind_some, Option.map_some, if_true, if_false, Bool.false_eq_true, decide_eq_true_eq, true_and, List.length_map, mPop, eg, ed]
      refine ⟨by decide, ?_⟩
      have e0 : L2.atI [108, 116] 0 = some 108 := rfl
      have e1 : L2.atI [108, 116] 1 = some 116 := rfl
      cases x with
      | lst xs =>
        have lk : xs.length ≤ szs xs := lk
        have hkz : szs xs + 1 ≤ szD (.lst xs) := hkz
        simp only [t__law_plain_1_2, dSeq, dNext, dIf, dOrT, dAndT, dNotT, dBl, kBl, dTru, kTru, DL.truD, dOp, dCl, s1, s2, dCons, dNil, dVar, dMov, dC, kLenN, peek, lenW, noDict, lenD, sCmp, sOrd, sEq, kEq, sIn, sIsN, nonW, sInt, sAdd, sMul, sRows, rowD, flat, dsOf, seqW, dRet, dRetN, dDrop, dBrk, dCnt, dAsg, gN, gTp, gsCons, gsNil, DL.gSub, setW, useW, useWs, useD, nosto, nostos, fz, fzs, dCall, dCall0, argsD, argD, dLst, dTup, dIte, dAnd, dOr, dNot, dNeg, dBm, isTy, mApp, sIx, kItem, rowOf, dSl, kSl, dNo, dSo, kInt, kStr, kRepr, kListOf, kIsi, tyN, dFor, dRow, dRng1, dRng2, dComp, wipeE, dYes, dJoin, dJs, dFmt, kFmt, pkS, kI2, kAbs, okq, eqv, okqs, eqvs, kCat, dsOf_map, nostos_d, fzs_d, List.getElem?_cons_zero, List.getElem?_cons_succ, List.set_cons_zero, List.set_cons_succ, List.length_cons, List.length_nil, Option.bind_some, Option.map_some, if_true, if_false, Bool.false_eq_true, decide_eq_true_eq, true_and, List.length_map, kb_ll, kb_lt]
        refine ⟨Nat.zero_le _, ?_⟩
        simp only [t__law_plain_2_0, dSeq, dNext, dIf, dOrT, dAndT, dNotT, dBl, kBl, dTru, kTru, DL.truD, dOp, dCl, s1, s2, dCons, dNil, dVar, dMov, dC, kLenN, peek, lenW, noDict, lenD, sCmp, sOrd, sEq, kEq, sIn, sIsN, nonW, sInt, sAdd, sMul, sRows, rowD, flat, dsOf, seqW, dRet, dRetN, dDrop, dBrk, dCnt, dAsg, gN, gTp, gsCons, gsNil, DL.gSub, setW, useW, useWs, useD, nosto, nostos, fz, fzs, dCall, dCall0, argsD, argD, dLst, dTup, dIte, dAnd, dOr, dNot, dNeg, dBm, isTy, mApp, sIx, kItem, rowOf, dSl, kSl, dNo, dSo, kInt, kStr, kRepr, kListOf, kIsi, tyN, dFor, dRow, dRng1, dRng2, dComp, wipeE, dYes, dJoin, dJs, dFmt, kFmt, pkS, kI2, kAbs, okq, eqv, okqs, eqvs, kCat, dsOf_map, nostos_d, fzs_d, List.getElem?_cons_zero, List.getElem?_cons_succ, List.set_cons_zero, List.set_cons_succ, List.length_cons, List.length_nil, Option.bind_some, Option.map_some, if_true, if_false, Bool.false_eq_true, decide_eq_true_eq, true_and, List.length_map, kb_ll, kb_lt, useWs, e0, e1]
        refine ⟨szl (by decide), szl (by decide), szl (by decide), rfl, by rwa [List.length_map] at lo, ?_⟩
        simp only [t__law_plain_2_1, dSeq, dNext, dIf, dOrT, dAndT, dNotT, dBl, kBl, dTru, kTru, DL.truD, dOp, dCl, s1, s2, dCons, dNil, dVar, dMov, dC, kLenN, peek, lenW, noDict, lenD, sCmp, sOrd, sEq, kEq, sIn, sIsN, nonW, sInt, sAdd, sMul, sRows, rowD, flat, dsOf, seqW, dRet, dRetN, dDrop, dBrk, dCnt, dAsg, gN, gTp, gsCons, gsNil, DL.gSub, setW, useW, useWs, useD, nosto, nostos, fz, fzs, dCall, dCall0, argsD, argD, dLst, dTup, dIte, dAnd, dOr, dNot, dNeg, dBm, isTy, mApp, sIx, kItem, rowOf, dSl, kSl, dNo, dSo, kInt, kStr, kRepr, kListOf, kIsi, tyN, dFor, dRow, dRng1, dRng2, dComp, wipeE, dYes, dJoin, dJs, dFmt, kFmt, pkS, kI2, kAbs, okq, eqv, okqs, eqvs, kCat, dsOf_map, nostos_d, fzs_d, List.getElem?_cons_zero, List.getElem?_cons_succ, List.set_cons_zero, List.set_cons_succ, List.length_cons, List.length_nil, Option.bind_some, Option.map_some, if_true, if_false, Bool.false_eq_true, decide_eq_true_eq, true_and, List.length_map]
        exact ⟨szl (by omega), by decide, next _ _⟩
      | klst xs =>
        have lk : xs.length ≤ szs xs := lk
        have hkz : szs xs + 1 ≤ szD (.klst xs) := hkz
        simp only [t__law_plain_1_2, dSeq, dNext, dIf, dOrT, dAndT, dNotT, dBl, kBl, dTru, kTru, DL.truD, dOp, dCl, s1, s2, dCons, dNil, dVar, dMov, dC, kLenN, peek, lenW, noDict, lenD, sCmp, sOrd, sEq, kEq, sIn, sIsN, nonW, sInt, sAdd, sMul, sRows, rowD, flat, dsOf, seqW, dRet, dRetN, dDrop, dBrk, dCnt, dAsg, gN, gTp, gsCons, gsNil, DL.gSub, setW, useW, useWs, useD, nosto, nostos, fz, fzs, dCall, dCall0, argsD, argD, dLst, dTup, dIte, dAnd, dOr, dNot, dNeg, dBm, isTy, mApp, sIx, kItem, rowOf, dSl, kSl, dNo, dSo, kInt, kStr, kRepr, kListOf, kIsi, tyN, dFor, dRow, dRng1, dRng2, dComp, wipeE, dYes, dJoin, dJs, dFmt, kFmt, pkS, kI2, kAbs, okq, eqv, okqs, eqvs, kCat, dsOf_map, nostos_d, fzs_d, List.getElem?_cons_zero, List.getElem?_cons_succ, List.set_cons_zero, List.set_cons_succ, List.length_cons, List.length_nil, Option.bind_some, Option.map_some, if_true, if_false, Bool.false_eq_true, decide_eq_true_eq, true_and, List.length_map, kb_ll, kb_lt]
        refine ⟨Nat.zero_le _, ?_⟩
        simp only [t__law_plain_2_0, dSeq, dNext, dIf, dOrT, dAndT, dNotT, dBl, kBl, dTru, kTru, DL.truD, dOp, dCl, s1, s2, dCons, dNil, dVar, dMov, dC, kLenN, peek, lenW, noDict, lenD, sCmp, sOrd, sEq, kEq, sIn, sIsN, nonW, sInt, sAdd, sMul, sRows, rowD, flat, dsOf, seqW, dRet, dRetN, dDrop, dBrk, dCnt, dAsg, gN, gTp, gsCons, gsNil, DL.gSub, setW, useW, useWs, useD, nosto, nostos, fz, fzs, dCall, dCall0, argsD, argD, dLst, dTup, dIte, dAnd, dOr, dNot, dNeg, dBm, isTy, mApp, sIx, kItem, rowOf, dSl, kSl, dNo, dSo, kInt, kStr, kRepr, kListOf, kIsi, tyN, dFor, dRow, dRng1, dRng2, dComp, wipeE, dYes, dJoin, dJs, dFmt, kFmt, pkS, kI2, kAbs, okq, eqv, okqs, eqvs, kCat, dsOf_map, nostos_d, fzs_d, List.getElem?_cons_zero, List.getElem?_cons_succ, List.set_cons_zero, List.set_cons_succ, List.length_cons, List.length_nil, Option.bind_some, Option.map_some, if_true, if_false, Bool.false_eq_true, decide_eq_true_eq, true_and, List.length_map, kb_ll, kb_lt, useWs, e0, e1]
        refine ⟨szl (by decide), szl (by decide), szl (by decide), rfl, by rwa [List.length_map] at lo, ?_⟩
        simp only [t__law_plain_2_1, dSeq, dNext, dIf, dOrT, dAndT, dNotT, dBl, kBl, dTru, kTru, DL.truD, dOp, dCl, s1, s2, dCons, dNil, dVar, dMov, dC, kLenN, peek, lenW, noDict, lenD, sCmp, sOrd, sEq, kEq, sIn, sIsN, nonW, sInt, sAdd, sMul, sRows, rowD, flat, dsOf, seqW, dRet, dRetN, dDrop, dBrk, dCnt, dAsg, gN, gTp, gsCons, gsNil, DL.gSub, setW, useW, useWs, useD, nosto, nostos, fz, fzs, dCall, dCall0, argsD, argD, dLst, dTup, dIte, dAnd, dOr, dNot, dNeg, dBm, isTy, mApp, sIx, kItem, rowOf, dSl, kSl, dNo, dSo, kInt, kStr, kRepr, kListOf, kIsi, tyN, dFor, dRow, dRng1, dRng2, dComp, wipeE, dYes, dJoin, dJs, dFmt, kFmt, pkS, kI2, kAbs, okq, eqv, okqs, eqvs, kCat, dsOf_map, nostos_d, fzs_d, List.getElem?_cons_zero, List.getElem?_cons_succ, List.set_cons_zero, List.set_cons_succ, List.length_cons, List.length_nil, Option.bind_some, Option.map_some, if_true, if_false, Bool.false_eq_true, decide_eq_true_eq, true_and, List.length_map]
        exact ⟨szl (by omega), by decide, next _ _⟩
      | tup xs =>
        have lk : xs.length ≤ szs xs := lk
        have hkz : szs xs + 1 ≤ szD (.tup xs) := hkz
        simp only [t__law_plain_1_2, dSeq, dNext, dIf, dOrT, dAndT, dNotT, dBl, kBl, dTru, kTru, DL.truD, dOp, dCl, s1, s2, dCons, dNil, dVar, dMov, dC, kLenN, peek, lenW, noDict, lenD, sCmp, sOrd, sEq, kEq, sIn, sIsN, nonW, sInt, sAdd, sMul, sRows, rowD, flat, dsOf, seqW, dRet, dRetN, dDrop, dBrk, dCnt, dAsg, gN, gTp, gsCons, gsNil, DL.gSub, setW, useW, useWs, useD, nosto, nostos, fz, fzs, dCall, dCall0, argsD, argD, dLst, dTup, dIte, dAnd, dOr, dNot, dNeg, dBm, isTy, mApp, sIx, kItem, rowOf, dSl, kSl, dNo, dSo, kInt, kStr, kRepr, kListOf, kIsi, tyN, dFor, dRow, dRng1, dRng2, dComp, wipeE, dYes, dJoin, dJs, dFmt, kFmt, pkS, kI2, kAbs, okq, eqv, okqs, eqvs, kCat, dsOf_map, nostos_d, fzs_d, List.getElem?_cons_zero, List.getElem?_cons_succ, List.set_cons_zero, List.set_cons_succ, List.length_cons, List.length_nil, Option.bind_some, Option.map_some, if_true, if_false, Bool.false_eq_true, decide_eq_true_eq, true_and, List.length_map, kb_tl, kb_tt]
        refine ⟨Nat.zero_le _, Nat.zero_le _, ?_⟩
        simp only [t__law_plain_2_0, dSeq, dNext, dIf, dOrT, dAndT, dNotT, dBl, kBl, dTru, kTru, DL.truD, dOp, dCl, s1, s2, dCons, dNil, dVar, dMov, dC, kLenN, peek, lenW, noDict, lenD, sCmp, sOrd, sEq, kEq, sIn, sIsN, nonW, sInt, sAdd, sMul, sRows, rowD, flat, dsOf, seqW, dRet, dRetN, dDrop, dBrk, dCnt, dAsg, gN, gTp, gsCons, gsNil, DL.gSub, setW, useW, useWs, useD, nosto, nostos, fz, fzs, dCall, dCall0, argsD, argD, dLst, dTup, dIte, dAnd, dOr, dNot, dNeg, dBm, isTy, mApp, sIx, kItem, rowOf, dSl, kSl, dNo, dSo, kInt, kStr, kRepr, kListOf, kIsi, tyN, dFor, dRow, dRng1, dRng2, dComp, wipeE, dYes, dJoin, dJs, dFmt, kFmt, pkS, kI2, kAbs, okq, eqv, okqs, eqvs, kCat, dsOf_map, nostos_d, fzs_d, List.getElem?_cons_zero, List.getElem?_cons_succ, List.set_cons_zero, List.set_cons_succ, List.length_cons, List.length_nil, Option.bind_some, Option.map_some, if_true, if_false, Bool.false_eq_true, decide_eq_true_eq, true_and, List.length_map, kb_tl, kb_tt, useWs, e0, e1]
        refine ⟨szl (by decide), szl (by decide), szl (by decide), rfl, by rwa [List.length_map] at lo, ?_⟩
        simp only [t__law_plain_2_1, dSeq, dNext, dIf, dOrT, dAndT, dNotT, dBl, kBl, dTru, kTru, DL.truD, dOp, dCl, s1, s2, dCons, dNil, dVar, dMov, dC, kLenN, peek, lenW, noDict, lenD, sCmp, sOrd, sEq, kEq, sIn, sIsN, nonW, sInt, sAdd, sMul, sRows, rowD, flat, dsOf, seqW, dRet, dRetN, dDrop, dBrk, dCnt, dAsg, gN, gTp, gsCons, gsNil, DL.gSub, setW, useW, useWs, useD, nosto, nostos, fz, fzs, dCall, dCall0, argsD, argD, dLst, dTup, dIte, dAnd, dOr, dNot, dNeg, dBm, isTy, mApp, sIx, kItem, rowOf, dSl, kSl, dNo, dSo, kInt, kStr, kRepr, kListOf, kIsi, tyN, dFor, dRow, dRng1, dRng2, dComp, wipeE, dYes, dJoin, dJs, dFmt, kFmt, pkS, kI2, kAbs, okq, eqv, okqs, eqvs, kCat, dsOf_map, nostos_d, fzs_d, List.getElem?_cons_zero, List.getElem?_cons_succ, List.set_cons_zero, List.set_cons_succ, List.length_cons, List.length_nil, Option.bind_some, Option.map_some, if_true, if_false, Bool.false_eq_true, decide_eq_true_eq, true_and, List.length_map]
        exact ⟨szl (by omega), by decide, next _ _⟩
      | non =>
        have next : ∀ o3 o4, K [some (.d x0), some (.ol (st'.map .d)), some (.ol (out.map partW ++ [partW (part1 .non)])), o3, o4] := fun o3 o4 => by
          have := next o3 o4
          rwa [show kids .non = [] from rfl, List.append_nil] at this
        simp only [t__law_plain_1_2, dSeq, dNext, dIf, dOrT, dAndT, dNotT, dBl, kBl, dTru, kTru, DL.truD, dOp, dCl, s1, s2, dCons, dNil, dVar, dMov, dC, kLenN, peek, lenW, noDict, lenD, sCmp, sOrd, sEq, kEq, sIn, sIsN, nonW, sInt, sAdd, sMul, sRows, rowD, flat, dsOf, seqW, dRet, dRetN, dDrop, dBrk, dCnt, dAsg, gN, gTp, gsCons, gsNil, DL.gSub, setW, useW, useWs, useD, nosto, nostos, fz, fzs, dCall, dCall0, argsD, argD, dLst, dTup, dIte, dAnd, dOr, dNot, dNeg, dBm, isTy, mApp, sIx, kItem, rowOf, dSl, kSl, dNo, dSo, kInt, kStr, kRepr, kListOf, kIsi, tyN, dFor, dRow, dRng1, dRng2, dComp, wipeE, dYes, dJoin, dJs, dFmt, kFmt, pkS, kI2, kAbs, okq, eqv, okqs, eqvs, kCat, dsOf_map, nostos_d, fzs_d, List.getElem?_cons_zero, List.getElem?_cons_succ, List.set_cons_zero, List.set_cons_succ, List.length_cons, List.length_nil, Option.bind_some, Option.map_some, if_true, if_false, Bool.false_eq_true, decide_eq_true_eq, true_and, List.length_map, kb_nl, kb_nt]
        refine ⟨Nat.zero_le _, Nat.zero_le _, ?_⟩
        simp only [t__law_plain_3_0, dSeq, dNext, dIf, dOrT, dAndT, dNotT, dBl, kBl, dTru, kTru, DL.truD, dOp, dCl, s1, s2, dCons, dNil, dVar, dMov, dC, kLenN, peek, lenW, noDict, lenD, sCmp, sOrd, sEq, kEq, sIn, sIsN, nonW, sInt, sAdd, sMul, sRows, rowD, flat, dsOf, seqW, dRet, dRetN, dDrop, dBrk, dCnt, dAsg, gN, gTp, gsCons, gsNil, DL.gSub, setW, useW, useWs, useD, nosto, nostos, fz, fzs, dCall, dCall0, argsD, argD, dLst, dTup, dIte, dAnd, dOr, dNot, dNeg, dBm, isTy, mApp, sIx, kItem, rowOf, dSl, kSl, dNo, dSo, kInt, kStr, kRepr, kListOf, kIsi, tyN, dFor, dRow, dRng1, dRng2, dComp, wipeE, dYes, dJoin, dJs, dFmt, kFmt, pkS, kI2, kAbs, okq, eqv, okqs, eqvs, kCat, dsOf_map, nostos_d, fzs_d, List.getElem?_cons_zero, List.getElem?_cons_succ, List.set_cons_zero, List.set_cons_succ, List.length_cons, List.length_nil, Option.bind_some, Option.map_some, if_true, if_false, Bool.false_eq_true, decide_eq_true_eq, true_and, List.length_map, Bool.false_bne]
        simp only [t__law_plain_4_0, dSeq, dNext, dIf, dOrT, dAndT, dNotT, dBl, kBl, dTru, kTru, DL.truD, dOp, dCl, s1, s2, dCons, dNil, dVar, dMov, dC, kLenN, peek, lenW, noDict, lenD, sCmp, sOrd, sEq, kEq, sIn, sIsN, nonW, sInt, sAdd, sMul, sRows, rowD, flat, dsOf, seqW, dRet, dRetN, dDrop, dBrk, dCnt, dAsg, gN, gTp, gsCons, gsNil, DL.gSub, setW, useW, useWs, useD, nosto, nostos, fz, fzs, dCall, dCall0, argsD, argD, dLst, dTup, dIte, dAnd, dOr, dNot, dNeg, dBm, isTy, mApp, sIx, kItem, rowOf, dSl, kSl, dNo, dSo, kInt, kStr, kRepr, kListOf, kIsi, tyN, dFor, dRow, dRng1, dRng2, dComp, wipeE, dYes, dJoin, dJs, dFmt, kFmt, pkS, kI2, kAbs, okq, eqv, okqs, eqvs, kCat, dsOf_map, nostos_d, fzs_d, List.getElem?_cons_zero, List.getElem?_cons_succ, List.set_cons_zero, List.set_cons_succ, List.length_cons, List.length_nil, Option.bind_some, Option.map_some, if_true, if_false, Bool.false_eq_true, decide_eq_true_eq, true_and, List.length_map, useWs]
        exact ⟨szl (by decide), rfl, by rwa [List.length_map] at lo, next _ _⟩
      | bl b =>
        have next : ∀ o3 o4, K [some (.d x0), some (.ol (st'.map .d)), some (.ol (out.map partW ++ [partW (part1 (.bl b))])), o3, o4] := fun o3 o4 => by
          have := next o3 o4
          rwa [show kids (.bl b) = [] from rfl, List.append_nil] at this
        simp only [t__law_plain_1_2, dSeq, dNext, dIf, dOrT, dAndT, dNotT, dBl, kBl, dTru, kTru, DL.truD, dOp, dCl, s1, s2, dCons, dNil, dVar, dMov, dC, kLenN, peek, lenW, noDict, lenD, sCmp, sOrd, sEq, kEq, sIn, sIsN, nonW, sInt, sAdd, sMul, sRows, rowD, flat, dsOf, seqW, dRet, dRetN, dDrop, dBrk, dCnt, dAsg, gN, gTp, gsCons, gsNil, DL.gSub, setW, useW, useWs, useD, nosto, nostos, fz, fzs, dCall, dCall0, argsD, argD, dLst, dTup, dIte, dAnd, dOr, dNot, dNeg, dBm, isTy, mApp, sIx, kItem, rowOf, dSl, kSl, dNo, dSo, kInt, kStr, kRepr, kListOf, kIsi, tyN, dFor, dRow, dRng1, dRng2, dComp, wipeE, dYes, dJoin, dJs, dFmt, kFmt, pkS, kI2, kAbs, okq, eqv, okqs, eqvs, kCat, dsOf_map, nostos_d, fzs_d, List.getElem?_cons_zero, List.getElem?_cons_succ, List.set_cons_zero, List.set_cons_succ, List.length_cons, List.length_nil, Option.bind_some, Option.map_some, if_true, if_false, Bool.false_eq_true, decide_eq_true_eq, true_and, List.length_map, kb_bl, kb_bt]
        refine ⟨Nat.zero_le _, Nat.zero_le _, ?_⟩
        simp only [t__law_plain_3_0, dSeq, dNext, dIf, dOrT, dAndT, dNotT, dBl, kBl, dTru, kTru, DL.truD, dOp, dCl, s1, s2, dCons, dNil, dVar, dMov, dC, kLenN, peek, lenW, noDict, lenD, sCmp, sOrd, sEq, kEq, sIn, sIsN, nonW, sInt, sAdd, sMul, sRows, rowD, flat, dsOf, seqW, dRet, dRetN, dDrop, dBrk, dCnt, dAsg, gN, gTp, gsCons, gsNil, DL.gSub, setW, useW, useWs, useD, nosto, nostos, fz, fzs, dCall, dCall0, argsD, argD, dLst, dTup, dIte, dAnd, dOr, dNot, dNeg, dBm, isTy, mApp, sIx, kItem, rowOf, dSl, kSl, dNo, dSo, kInt, kStr, kRepr, kListOf, kIsi, tyN, dFor, dRow, dRng1, dRng2, dComp, wipeE, dYes, dJoin, dJs, dFmt, kFmt, pkS, kI2, kAbs, okq, eqv, okqs, eqvs, kCat, dsOf_map, nostos_d, fzs_d, List.getElem?_cons_zero, List.getElem?_cons_succ, List.set_cons_zero, List.set_cons_succ, List.length_cons, List.length_nil, Option.bind_some, Option.map_some, if_true, if_false, Bool.false_eq_true, decide_eq_true_eq, true_and, List.length_map, Bool.false_bne, kb_bb]
        refine ⟨Nat.zero_le _, ?_⟩
        simp only [t__law_plain_4_0, dSeq, dNext, dIf, dOrT, dAndT, dNotT, dBl, kBl, dTru, kTru, DL.truD, dOp, dCl, s1, s2, dCons, dNil, dVar, dMov, dC, kLenN, peek, lenW, noDict, lenD, sCmp, sOrd, sEq, kEq, sIn, sIsN, nonW, sInt, sAdd, sMul, sRows, rowD, flat, dsOf, seqW, dRet, dRetN, dDrop, dBrk, dCnt, dAsg, gN, gTp, gsCons, gsNil, DL.gSub, setW, useW, useWs, useD, nosto, nostos, fz, fzs, dCall, dCall0, argsD, argD, dLst, dTup, dIte, dAnd, dOr, dNot, dNeg, dBm, isTy, mApp, sIx, kItem, rowOf, dSl, kSl, dNo, dSo, kInt, kStr, kRepr, kListOf, kIsi, tyN, dFor, dRow, dRng1, dRng2, dComp, wipeE, dYes, dJoin, dJs, dFmt, kFmt, pkS, kI2, kAbs, okq, eqv, okqs, eqvs, kCat, dsOf_map, nostos_d, fzs_d, List.getElem?_cons_zero, List.getElem?_cons_succ, List.set_cons_zero, List.set_cons_succ, List.length_cons, List.length_nil, Option.bind_some, Option.map_some, if_true, if_false, Bool.false_eq_true, decide_eq_true_eq, true_and, List.length_map, useWs]
        exact ⟨szl (by decide), rfl, by rwa [List.length_map] at lo, next _ _⟩
      | int i =>
        have next : ∀ o3 o4, K [some (.d x0), some (.ol (st'.map .d)), some (.ol (out.map partW ++ [partW (part1 (.int i))])), o3, o4] := fun o3 o4 => by
          have := next o3 o4
          rwa [show kids (.int i) = [] from rfl, List.append_nil] at this
        simp only [t__law_plain_1_2, dSeq, dNext, dIf, dOrT, dAndT, dNotT, dBl, kBl, dTru, kTru, DL.truD, dOp, dCl, s1, s2, dCons, dNil, dVar, dMov, dC, kLenN, peek, lenW, noDict, lenD, sCmp, sOrd, sEq, kEq, sIn, sIsN, nonW, sInt, sAdd, sMul, sRows, rowD, flat, dsOf, seqW, dRet, dRetN, dDrop, dBrk, dCnt, dAsg, gN, gTp, gsCons, gsNil, DL.gSub, setW, useW, useWs, useD, nosto, nostos, fz, fzs, dCall, dCall0, argsD, argD, dLst, dTup, dIte, dAnd, dOr, dNot, dNeg, dBm, isTy, mApp, sIx, kItem, rowOf, dSl, kSl, dNo, dSo, kInt, kStr, kRepr, kListOf, kIsi, tyN, dFor, dRow, dRng1, dRng2, dComp, wipeE, dYes, dJoin, dJs, dFmt, kFmt, pkS, kI2, kAbs, okq, eqv, okqs, eqvs, kCat, dsOf_map, nostos_d, fzs_d, List.getElem?_cons_zero, List.getElem?_cons_succ, List.set_cons_zero, List.set_cons_succ, List.length_cons, List.length_nil, Option.bind_some, Option.map_some, if_true, if_false, Bool.false_eq_true, decide_eq_true_eq, true_and, List.length_map, kb_il, kb_it]
        refine ⟨Nat.zero_le _, Nat.zero_le _, ?_⟩
        simp only [t__law_plain_3_0, dSeq, dNext, dIf, dOrT, dAndT, dNotT, dBl, kBl, dTru, kTru, DL.truD, dOp, dCl, s1, s2, dCons, dNil, dVar, dMov, dC, kLenN, peek, lenW, noDict, lenD, sCmp, sOrd, sEq, kEq, sIn, sIsN, nonW, sInt, sAdd, sMul, sRows, rowD, flat, dsOf, seqW, dRet, dRetN, dDrop, dBrk, dCnt, dAsg, gN, gTp, gsCons, gsNil, DL.gSub, setW, useW, useWs, useD, nosto, nostos, fz, fzs, dCall, dCall0, argsD, argD, dLst, dTup, dIte, dAnd, dOr, dNot, dNeg, dBm, isTy, mApp, sIx, kItem, rowOf, dSl, kSl, dNo, dSo, kInt, kStr, kRepr, kListOf, kIsi, tyN, dFor, dRow, dRng1, dRng2, dComp, wipeE, dYes, dJoin, dJs, dFmt, kFmt, pkS, kI2, kAbs, okq, eqv, okqs, eqvs, kCat, dsOf_map, nostos_d, fzs_d, List.getElem?_cons_zero, List.getElem?_cons_succ, List.set_cons_zero, List.set_cons_succ, List.length_cons, List.length_nil, Option.bind_some, Option.map_some, if_true, if_false, Bool.false_eq_true, decide_eq_true_eq, true_and, List.length_map, Bool.false_bne, kb_ib]
        refine ⟨Nat.zero_le _, ?_⟩
        simp only [t__law_plain_5_0, dSeq, dNext, dIf, dOrT, dAndT, dNotT, dBl, kBl, dTru, kTru, DL.truD, dOp, dCl, s1, s2, dCons, dNil, dVar, dMov, dC, kLenN, peek, lenW, noDict, lenD, sCmp, sOrd, sEq, kEq, sIn, sIsN, nonW, sInt, sAdd, sMul, sRows, rowD, flat, dsOf, seqW, dRet, dRetN, dDrop, dBrk, dCnt, dAsg, gN, gTp, gsCons, gsNil, DL.gSub, setW, useW, useWs, useD, nosto, nostos, fz, fzs, dCall, dCall0, argsD, argD, dLst, dTup, dIte, dAnd, dOr, dNot, dNeg, dBm, isTy, mApp, sIx, kItem, rowOf, dSl, kSl, dNo, dSo, kInt, kStr, kRepr, kListOf, kIsi, tyN, dFor, dRow, dRng1, dRng2, dComp, wipeE, dYes, dJoin, dJs, dFmt, kFmt, pkS, kI2, kAbs, okq, eqv, okqs, eqvs, kCat, dsOf_map, nostos_d, fzs_d, List.getElem?_cons_zero, List.getElem?_cons_succ, List.set_cons_zero, List.set_cons_succ, List.length_cons, List.length_nil, Option.bind_some, Option.map_some, if_true, if_false, Bool.false_eq_true, decide_eq_true_eq, true_and, List.length_map, kb_ii]
        refine ⟨Nat.zero_le _, ?_⟩
        simp only [t__law_plain_6_0, dSeq, dNext, dIf, dOrT, dAndT, dNotT, dBl, kBl, dTru, kTru, DL.truD, dOp, dCl, s1, s2, dCons, dNil, dVar, dMov, dC, kLenN, peek, lenW, noDict, lenD, sCmp, sOrd, sEq, kEq, sIn, sIsN, nonW, sInt, sAdd, sMul, sRows, rowD, flat, dsOf, seqW, dRet, dRetN, dDrop, dBrk, dCnt, dAsg, gN, gTp, gsCons, gsNil, DL.gSub, setW, useW, useWs, useD, nosto, nostos, fz, fzs, dCall, dCall0, argsD, argD, dLst, dTup, dIte, dAnd, dOr, dNot, dNeg, dBm, isTy, mApp, sIx, kItem, rowOf, dSl, kSl, dNo, dSo, kInt, kStr, kRepr, kListOf, kIsi, tyN, dFor, dRow, dRng1, dRng2, dComp, wipeE, dYes, dJoin, dJs, dFmt, kFmt, pkS, kI2, kAbs, okq, eqv, okqs, eqvs, kCat, dsOf_map, nostos_d, fzs_d, List.getElem?_cons_zero, List.getElem?_cons_succ, List.set_cons_zero, List.set_cons_succ, List.length_cons, List.length_nil, Option.bind_some, Option.map_some, if_true, if_false, Bool.false_eq_true, decide_eq_true_eq, true_and, List.length_map, useWs]
        exact ⟨szl (by decide), rfl, by rwa [List.length_map] at lo, next _ _⟩
      | str s =>
        have next : ∀ o3 o4, K [some (.d x0), some (.ol (st'.map .d)), some (.ol (out.map partW ++ [partW (part1 (.str s))])), o3, o4] := fun o3 o4 => by
          have := next o3 o4
          rwa [show kids (.str s) = [] from rfl, List.append_nil] at this
        simp only [t__law_plain_1_2, dSeq, dNext, dIf, dOrT, dAndT, dNotT, dBl, kBl, dTru, kTru, DL.truD, dOp, dCl, s1, s2, dCons, dNil, dVar, dMov, dC, kLenN, peek, lenW, noDict, lenD, sCmp, sOrd, sEq, kEq, sIn, sIsN, nonW, sInt, sAdd, sMul, sRows, rowD, flat, dsOf, seqW, dRet, dRetN, dDrop, dBrk, dCnt, dAsg, gN, gTp, gsCons, gsNil, DL.gSub, setW, useW, useWs, useD, nosto, nostos, fz, fzs, dCall, dCall0, argsD, argD, dLst, dTup, dIte, dAnd, dOr, dNot, dNeg, dBm, isTy, mApp, sIx, kItem, rowOf, dSl, kSl, dNo, dSo, kInt, kStr, kRepr, kListOf, kIsi, tyN, dFor, dRow, dRng1, dRng2, dComp, wipeE, dYes, dJoin, dJs, dFmt, kFmt, pkS, kI2, kAbs, okq, eqv, okqs, eqvs, kCat, dsOf_map, nostos_d, fzs_d, List.getElem?_cons_zero, List.getElem?_cons_succ, List.set_cons_zero, List.set_cons_succ, List.length_cons, List.length_nil, Option.bind_some, Option.map_some, if_true, if_false, Bool.false_eq_true, decide_eq_true_eq, true_and, List.length_map, kb_sl, kb_st]
        refine ⟨Nat.zero_le _, Nat.zero_le _, ?_⟩
        simp only [t__law_plain_3_0, dSeq, dNext, dIf, dOrT, dAndT, dNotT, dBl, kBl, dTru, kTru, DL.truD, dOp, dCl, s1, s2, dCons, dNil, dVar, dMov, dC, kLenN, peek, lenW, noDict, lenD, sCmp, sOrd, sEq, kEq, sIn, sIsN, nonW, sInt, sAdd, sMul, sRows, rowD, flat, dsOf, seqW, dRet, dRetN, dDrop, dBrk, dCnt, dAsg, gN, gTp, gsCons, gsNil, DL.gSub, setW, useW, useWs, useD, nosto, nostos, fz, fzs, dCall, dCall0, argsD, argD, dLst, dTup, dIte, dAnd, dOr, dNot, dNeg, dBm, isTy, mApp, sIx, kItem, rowOf, dSl, kSl, dNo, dSo, kInt, kStr, kRepr, kListOf, kIsi, tyN, dFor, dRow, dRng1, dRng2, dComp, wipeE, dYes, dJoin, dJs, dFmt, kFmt, pkS, kI2, kAbs, okq, eqv, okqs, eqvs, kCat, dsOf_map, nostos_d, fzs_d, List.getElem?_cons_zero, List.getElem?_cons_succ, List.set_cons_zero, List.set_cons_succ, List.length_cons, List.length_nil, Option.bind_some, Option.map_some, if_true, if_false, Bool.false_eq_true, decide_eq_true_eq, true_and, List.length_map, Bool.false_bne, kb_sb]
        refine ⟨Nat.zero_le _, ?_⟩
        simp only [t__law_plain_5_0, dSeq, dNext, dIf, dOrT, dAndT, dNotT, dBl, kBl, dTru, kTru, DL.truD, dOp, dCl, s1, s2, dCons, dNil, dVar, dMov, dC, kLenN, peek, lenW, noDict, lenD, sCmp, sOrd, sEq, kEq, sIn, sIsN, nonW, sInt, sAdd, sMul, sRows, rowD, flat, dsOf, seqW, dRet, dRetN, dDrop, dBrk, dCnt, dAsg, gN, gTp, gsCons, gsNil, DL.gSub, setW, useW, useWs, useD, nosto, nostos, fz, fzs, dCall, dCall0, argsD, argD, dLst, dTup, dIte, dAnd, dOr, dNot, dNeg, dBm, isTy, mApp, sIx, kItem, rowOf, dSl, kSl, dNo, dSo, kInt, kStr, kRepr, kListOf, kIsi, tyN, dFor, dRow, dRng1, dRng2, dComp, wipeE, dYes, dJoin, dJs, dFmt, kFmt, pkS, kI2, kAbs, okq, eqv, okqs, eqvs, kCat, dsOf_map, nostos_d, fzs_d, List.getElem?_cons_zero, List.getElem?_cons_succ, List.set_cons_zero, List.set_cons_succ, List.length_cons, List.length_nil, Option.bind_some, Option.map_some, if_true, if_false, Bool.false_eq_true, decide_eq_true_eq, true_and, List.length_map, kb_si]
        refine ⟨Nat.zero_le _, ?_⟩
        simp only [t__law_plain_7_0, dSeq, dNext, dIf, dOrT, dAndT, dNotT, dBl, kBl, dTru, kTru, DL.truD, dOp, dCl, s1, s2, dCons, dNil, dVar, dMov, dC, kLenN, peek, lenW, noDict, lenD, sCmp, sOrd, sEq, kEq, sIn, sIsN, nonW, sInt, sAdd, sMul, sRows, rowD, flat, dsOf, seqW, dRet, dRetN, dDrop, dBrk, dCnt, dAsg, gN, gTp, gsCons, gsNil, DL.gSub, setW, useW, useWs, useD, nosto, nostos, fz, fzs, dCall, dCall0, argsD, argD, dLst, dTup, dIte, dAnd, dOr, dNot, dNeg, dBm, isTy, mApp, sIx, kItem, rowOf, dSl, kSl, dNo, dSo, kInt, kStr, kRepr, kListOf, kIsi, tyN, dFor, dRow, dRng1, dRng2, dComp, wipeE, dYes, dJoin, dJs, dFmt, kFmt, pkS, kI2, kAbs, okq, eqv, okqs, eqvs, kCat, dsOf_map, nostos_d, fzs_d, List.getElem?_cons_zero, List.getElem?_cons_succ, List.set_cons_zero, List.set_cons_succ, List.length_cons, List.length_nil, Option.bind_some, Option.map_some, if_true, if_false, Bool.false_eq_true, decide_eq_true_eq, true_and, List.length_map, kb_ss]
        refine ⟨Nat.zero_le _, ?_⟩
        simp only [t__law_plain_8_0, dSeq, dNext, dIf, dOrT, dAndT, dNotT, dBl, kBl, dTru, kTru, DL.truD, dOp, dCl, s1, s2, dCons, dNil, dVar, dMov, dC, kLenN, peek, lenW, noDict, lenD, sCmp, sOrd, sEq, kEq, sIn, sIsN, nonW, sInt, sAdd, sMul, sRows, rowD, flat, dsOf, seqW, dRet, dRetN, dDrop, dBrk, dCnt, dAsg, gN, gTp, gsCons, gsNil, DL.gSub, setW, useW, useWs, useD, nosto, nostos, fz, fzs, dCall, dCall0, argsD, argD, dLst, dTup, dIte, dAnd, dOr, dNot, dNeg, dBm, isTy, mApp, sIx, kItem, rowOf, dSl, kSl, dNo, dSo, kInt, kStr, kRepr, kListOf, kIsi, tyN, dFor, dRow, dRng1, dRng2, dComp, wipeE, dYes, dJoin, dJs, dFmt, kFmt, pkS, kI2, kAbs, okq, eqv, okqs, eqvs, kCat, dsOf_map, nostos_d, fzs_d, List.getElem?_cons_zero, List.getElem?_cons_succ, List.set_cons_zero, List.set_cons_succ, List.length_cons, List.length_nil, Option.bind_some, Option.map_some, if_true, if_false, Bool.false_eq_true, decide_eq_true_eq, true_and, List.length_map, useWs]
        exact ⟨szl (by decide), rfl, by rwa [List.length_map] at lo, next _ _⟩
      | _ => cases hpx
  · obtain ⟨i, _, rfl⟩ := List.mem_map.mp m
    exact ⟨_, rfl⟩
  · obtain ⟨st, out, o3, o4, rfl, _, _, _, _, hk'⟩ := h
    exact fin _ _ _ _ hk'
theorem out_okq : ∀ {n : Nat} {st : List D} {out : List (List Nat × D)}, plns st = true → (∀ p ∈ out, okqs 62 [.str p.1, p.2] = true) → ∀ p ∈ plain n st out, okqs 62 [.str p.1, p.2] = true
  | 0, _, _, _, h => h
  | n + 1, st, out, hs, h => by
    rcases List.eq_nil_or_concat st with rfl | ⟨st', x, rfl⟩
    · exact h
    · rw [List.concat_eq_append] at *
      have e : plain (n + 1) (st' ++ [x]) out = plain n (st' ++ kids x) (out ++ [part1 x]) := by
        show (match (st' ++ [x]).getLast? with | none => out | some y => plain n ((st' ++ [x]).dropLast ++ kids y) (out ++ [part1 y])) = _
        rw [getLast_snoc, List.dropLast_concat]
      rw [e]
      rw [plns_app] at hs
      obtain ⟨h1, h2⟩ := band hs
      have hx : pln x = true := (band (show (pln x && true) = true from h2)).1
      refine out_okq (by rw [plns_app, h1, kids_pln hx]; rfl) fun p m => (List.mem_append.mp m).elim (h p) fun m => ?_
      rw [List.mem_singleton.mp m]
      cases x with
      | str s =>
        simp only [part1, okqs, okq, Bool.and_true, Bool.true_and]
        have hx : s.all (· < 128) = true := hx
        refine Bool.and_eq_true_iff.mpr ⟨by decide, List.all_eq_true.mpr fun c m => ?_⟩
        have := of_decide_eq_true (List.all_eq_true.mp hx c m)
        exact decide_eq_true (by omega)
      | bl b => cases b <;> decide
      | _ => first | (simp only [part1, okqs, okq]; decide) | (exact Bool.noConfusion hx)
theorem okqs_map {α : Type} {n : Nat} {f : α → D} : ∀ {xs : List α}, (∀ x ∈ xs, okq n (f x) = true) → okqs n (xs.map f) = true
  | [], _ => rfl
  | x :: xs, h => by
    show (okq n (f x) && okqs n (xs.map f)) = true
    rw [h x List.mem_cons_self, okqs_map fun y m => h y (List.mem_cons_of_mem _ m)]; rfl
theorem fz_partW : ∀ (l : List (List Nat × D)), fzs (l.map partW) = l.map fun p => D.tup [.str p.1, p.2]
  | [] => rfl
  | p :: l => by show fz (partW p) :: fzs (l.map partW) = _; rw [fz_partW]; rfl
theorem nosto_partW : ∀ (l : List (List Nat × D)), nostos (l.map partW) = true
  | [] => rfl
  | p :: l => by show (true && nostos (l.map partW)) = true; rw [nosto_partW]; rfl
theorem p__law_alike : ∀ ws k kx, ws.length = 2 → S__law_alike ws k kx → t__law_alike (retE k) (fun x _ => kx x) (startE N__law_alike ws) := by
  rintro ws k kx - ⟨x, rfl, hp, hs, hk⟩
  rw [se__law_alike]
  simp only [t__law_alike, t__law_alike_0_0, dSeq, dNext, dIf, dOrT, dAndT, dNotT, dBl, kBl, dTru, kTru, DL.truD, dOp, dCl, s1, s2, dCons, dNil, dVar, dMov, dC, kLenN, peek, lenW, noDict, lenD, sCmp, sOrd, sEq, kEq, sIn, sIsN, nonW, sInt, sAdd, sMul, sRows, rowD, flat, dsOf, seqW, dRet, dRetN, dDrop, dBrk, dCnt, dAsg, gN, gTp, gsCons, gsNil, DL.gSub, setW, useW, useWs, useD, nosto, nostos, fz, fzs, dCall, dCall0, argsD, argD, dLst, dTup, dIte, dAnd, dOr, dNot, dNeg, dBm, isTy, mApp, sIx, kItem, rowOf, dSl, kSl, dNo, dSo, kInt, kStr, kRepr, kListOf, kIsi, tyN, dFor, dRow, dRng1, dRng2, dComp, wipeE, dYes, dJoin, dJs, dFmt, kFmt, pkS, kI2, kAbs, okq, eqv, okqs, eqvs, kCat, dsOf_map, nostos_d, fzs_d, List.getElem?_cons_zero, List.getElem?_cons_succ, List.set_cons_zero, List.set_cons_succ, List.length_cons, List.length_nil, Option.bind_some, Option.map_some, if_true, if_false, Bool.false_eq_true, decide_eq_true_eq, true_and, List.length_map]
  refine ⟨x, rfl, hp, hs, ?_⟩
  have ok := out_okq (n := 40000) (st := [x]) (out := []) (by show (pln x && true) = true; rw [hp]; rfl) (fun p m => nomatch m)
  have hq : okq 64 (.lst (fzs ((plain 40000 [x] []).map partW))) = true := by
    simp only [okq, fz_partW]
    refine okqs_map fun p m => ?_
    simp only [okq]
    exact ok p m
  simp only [dSeq, dNext, dIf, dOrT, dAndT, dNotT, dBl, kBl, dTru, kTru, DL.truD, dOp, dCl, s1, s2, dCons, dNil, dVar, dMov, dC, kLenN, peek, lenW, noDict, lenD, sCmp, sOrd, sEq, kEq, sIn, sIsN, nonW, sInt, sAdd, sMul, sRows, rowD, flat, dsOf, seqW, dRet, dRetN, dDrop, dBrk, dCnt, dAsg, gN, gTp, gsCons, gsNil, DL.gSub, setW, useW, useWs, useD, nosto, nostos, fz, fzs, dCall, dCall0, argsD, argD, dLst, dTup, dIte, dAnd, dOr, dNot, dNeg, dBm, isTy, mApp, sIx, kItem, rowOf, dSl, kSl, dNo, dSo, kInt, kStr, kRepr, kListOf, kIsi, tyN, dFor, dRow, dRng1, dRng2, dComp, wipeE, dYes, dJoin, dJs, dFmt, kFmt, pkS, kI2, kAbs, okq, eqv, okqs, eqvs, kCat, dsOf_map, nostos_d, fzs_d, List.getElem?_cons_zero, List.getElem?_cons_succ, List.set_cons_zero, List.set_cons_succ, List.length_cons, List.length_nil, Option.bind_some, Option.map_some, if_true, if_false, Bool.false_eq_true, decide_eq_true_eq, true_and, List.length_map, nosto_partW, ite_self]
  refine ⟨x, rfl, hp, hs, ?_⟩
  simp only [okq, fz_partW] at hq
  have he := eqvs_refl hq
  simp only [dSeq, dNext, dIf, dOrT, dAndT, dNotT, dBl, kBl, dTru, kTru, DL.truD, dOp, dCl, s1, s2, dCons, dNil, dVar, dMov, dC, kLenN, peek, lenW, noDict, lenD, sCmp, sOrd, sEq, kEq, sIn, sIsN, nonW, sInt, sAdd, sMul, sRows, rowD, flat, dsOf, seqW, dRet, dRetN, dDrop, dBrk, dCnt, dAsg, gN, gTp, gsCons, gsNil, DL.gSub, setW, useW, useWs, useD, nosto, nostos, fz, fzs, dCall, dCall0, argsD, argD, dLst, dTup, dIte, dAnd, dOr, dNot, dNeg, dBm, isTy, mApp, sIx, kItem, rowOf, dSl, kSl, dNo, dSo, kInt, kStr, kRepr, kListOf, kIsi, tyN, dFor, dRow, dRng1, dRng2, dComp, wipeE, dYes, dJoin, dJs, dFmt, kFmt, pkS, kI2, kAbs, okq, eqv, okqs, eqvs, kCat, dsOf_map, nostos_d, fzs_d, List.getElem?_cons_zero, List.getElem?_cons_succ, List.set_cons_zero, List.set_cons_succ, List.length_cons, List.length_nil, Option.bind_some, Option.map_some, if_true, if_false, Bool.false_eq_true, decide_eq_true_eq, true_and, List.length_map, nosto_partW, ite_self, fz_partW, hq, he, Bool.false_bne, retE]
  exact ⟨_, rfl, hk⟩
end Lk27

namespace Lk27
open PySem DL
section
variable {α : Type} (a b c d e f : α)
theorem a6_0 : L2.atI [a, b, c, d, e, f] 0 = some a := rfl
theorem a6_1 : L2.atI [a, b, c, d, e, f] 1 = some b := rfl
theorem a6_2 : L2.atI [a, b, c, d, e, f] 2 = some c := rfl
theorem a6_3 : L2.atI [a, b, c, d, e, f] 3 = some d := rfl
theorem a6_4 : L2.atI [a, b, c, d, e, f] 4 = some e := rfl
theorem a6_5 : L2.atI [a, b, c, d, e, f] 5 = some f := rfl
theorem a2_0 : L2.atI [a, b] 0 = some a := rfl
theorem a2_1 : L2.atI [a, b] 1 = some b := rfl
end
theorem i6_1 : L2.ixN (0 + 1 + 1 + 1 + 1 + 1 + 1) 1 = some 1 := rfl
theorem i6_2 : L2.ixN (0 + 1 + 1 + 1 + 1 + 1 + 1) 2 = some 2 := rfl
theorem i6_3 : L2.ixN (0 + 1 + 1 + 1 + 1 + 1 + 1) 3 = some 3 := rfl
theorem i6_4 : L2.ixN (0 + 1 + 1 + 1 + 1 + 1 + 1) 4 = some 4 := rfl
theorem i6_5 : L2.ixN (0 + 1 + 1 + 1 + 1 + 1 + 1) 5 = some 5 := rfl
theorem mulR {i j : Int} (h1 : -(2 ^ 64) < j) (h2 : j < 2 ^ 64) : MulFit i j := IntMulOk.of_right (intBits_le_64 h1 h2)
theorem p__law_take : ∀ m ws, 1 ≤ m → m < 1073741824 → goodS ws → t__law_take (takeE m) (fun _ _ => False) (startE N__law_take [.oL ws, .d (.int m)]) := by
  rintro m ws m1 m2 ⟨xs, p, g, f, r, c, rfl, hx, p0, g0, r0, r1⟩
  rw [se__law_take]
  -- the end: a number below m
  have fin : ∀ xs p g f r c i o2 o4, (∀ x ∈ xs, cellOk x) → 0 ≤ p → 0 ≤ g → 0 ≤ r → r < 2147483647 → 0 ≤ i → i < m → (takeE m).rt (.at_ 3) [some (.oL [.d (.cel xs), .d (.int p), .d (.int g), .d (.int f), .d (.int r), .d (.int c)]), some (.d (.int m)), o2, some (.d (.int i)), o4] := fun xs p g f r c i o2 o4 h1 h2 h3 h4 h5 h6 h7 => ⟨i, _, rfl, h6, h7, rfl, xs, p, g, f, r, c, rfl, h1, h2, h3, h4, h5⟩
  have tail : ∀ xs p g f r c o2, (∀ x ∈ xs, cellOk x) → 0 ≤ p → 0 ≤ g → 0 ≤ r → r < 2147483647 → t__law_take_0_2 (takeE m) (fun _ _ => False) [some (.oL [.d (.cel xs), .d (.int p), .d (.int g), .d (.int f), .d (.int r), .d (.int c)]), some (.d (.int m)), o2, none, none] := fun xs p g f r c o2 h1 h2 h3 h4 h5 => by
    simp only [t__law_take_0_2, dSeq, dNext, dIf, dOrT, dAndT, dNotT, dBl, kBl, dTru, kTru, DL.truD, dOp, dCl, s1, s2, dCons, dNil, dVar, dMov, dC, kLenN, peek, lenW, noDict, lenD, sCmp, sOrd, sEq, kEq, sIn, sIsN, nonW, sInt, sAdd, sMul, sRows, rowD, flat, dsOf, seqW, dRet, dRetN, dDrop, dBrk, dCnt, dAsg, gN, gTp, gsCons, gsNil, DL.gSub, setW, useW, useWs, useD, nosto, nostos, fz, fzs, dCall, dCall0, argsD, argD, dLst, dTup, dIte, dAnd, dOr, dNot, dNeg, dBm, isTy, mApp, sIx, kItem, rowOf, dSl, kSl, dNo, dSo, kInt, kStr, kRepr, kListOf, kIsi, tyN, dFor, dRow, dRng1, dRng2, dComp, wipeE, dYes, dJoin, dJs, dFmt, kFmt, pkS, kI2, kAbs, okq, eqv, okqs, eqvs, kCat, dsOf_map, nostos_d, fzs_d, List.getElem?_cons_zero, List.getElem?_cons_succ, List.set_cons_zero, List.set_cons_succ, List.length_cons, List.length_nil, Option.bind_some, Option.map_some, if_true, if_false, Bool.false_eq_true, decide_eq_true_eq, true_and, List.length_map, a6_2]
    split
    · simp only [t__law_take_1_0, dSeq, dNext, dIf, dOrT, dAndT, dNotT, dBl, kBl, dTru, kTru, DL.truD, dOp, dCl, s1, s2, dCons, dNil, dVar, dMov, dC, kLenN, peek, lenW, noDict, lenD, sCmp, sOrd, sEq, kEq, sIn, sIsN, nonW, sInt, sAdd, sMul, sRows, rowD, flat, dsOf, seqW, dRet, dRetN, dDrop, dBrk, dCnt, dAsg, gN, gTp, gsCons, gsNil, DL.gSub, setW, useW, useWs, useD, nosto, nostos, fz, fzs, dCall, dCall0, argsD, argD, dLst, dTup, dIte, dAnd, dOr, dNot, dNeg, dBm, isTy, mApp, sIx, kItem, rowOf, dSl, kSl, dNo, dSo, kInt, kStr, kRepr, kListOf, kIsi, tyN, dFor, dRow, dRng1, dRng2, dComp, wipeE, dYes, dJoin, dJs, dFmt, kFmt, pkS, kI2, kAbs, okq, eqv, okqs, eqvs, kCat, dsOf_map, nostos_d, fzs_d, List.getElem?_cons_zero, List.getElem?_cons_succ, List.set_cons_zero, List.set_cons_succ, List.length_cons, List.length_nil, Option.bind_some, Option.map_some, if_true, if_false, Bool.false_eq_true, decide_eq_true_eq, true_and, List.length_map, a6_2]
      refine ⟨by omega, by decide, ?_⟩
      simp only [t__law_take_1_1, dSeq, dNext, dIf, dOrT, dAndT, dNotT, dBl, kBl, dTru, kTru, DL.truD, dOp, dCl, s1, s2, dCons, dNil, dVar, dMov, dC, kLenN, peek, lenW, noDict, lenD, sCmp, sOrd, sEq, kEq, sIn, sIsN, nonW, sInt, sAdd, sMul, sRows, rowD, flat, dsOf, seqW, dRet, dRetN, dDrop, dBrk, dCnt, dAsg, gN, gTp, gsCons, gsNil, DL.gSub, setW, useW, useWs, useD, nosto, nostos, fz, fzs, dCall, dCall0, argsD, argD, dLst, dTup, dIte, dAnd, dOr, dNot, dNeg, dBm, isTy, mApp, sIx, kItem, rowOf, dSl, kSl, dNo, dSo, kInt, kStr, kRepr, kListOf, kIsi, tyN, dFor, dRow, dRng1, dRng2, dComp, wipeE, dYes, dJoin, dJs, dFmt, kFmt, pkS, kI2, kAbs, okq, eqv, okqs, eqvs, kCat, dsOf_map, nostos_d, fzs_d, List.getElem?_cons_zero, List.getElem?_cons_succ, List.set_cons_zero, List.set_cons_succ, List.length_cons, List.length_nil, Option.bind_some, Option.map_some, if_true, if_false, Bool.false_eq_true, decide_eq_true_eq, true_and, List.length_map, a6_2, i6_2]
      refine ⟨⟨by omega, m2⟩, ?_⟩
      simp only [t__law_take_1_2, dSeq, dNext, dIf, dOrT, dAndT, dNotT, dBl, kBl, dTru, kTru, DL.truD, dOp, dCl, s1, s2, dCons, dNil, dVar, dMov, dC, kLenN, peek, lenW, noDict, lenD, sCmp, sOrd, sEq, kEq, sIn, sIsN, nonW, sInt, sAdd, sMul, sRows, rowD, flat, dsOf, seqW, dRet, dRetN, dDrop, dBrk, dCnt, dAsg, gN, gTp, gsCons, gsNil, DL.gSub, setW, useW, useWs, useD, nosto, nostos, fz, fzs, dCall, dCall0, argsD, argD, dLst, dTup, dIte, dAnd, dOr, dNot, dNeg, dBm, isTy, mApp, sIx, kItem, rowOf, dSl, kSl, dNo, dSo, kInt, kStr, kRepr, kListOf, kIsi, tyN, dFor, dRow, dRng1, dRng2, dComp, wipeE, dYes, dJoin, dJs, dFmt, kFmt, pkS, kI2, kAbs, okq, eqv, okqs, eqvs, kCat, dsOf_map, nostos_d, fzs_d, List.getElem?_cons_zero, List.getElem?_cons_succ, List.set_cons_zero, List.set_cons_succ, List.length_cons, List.length_nil, Option.bind_some, Option.map_some, if_true, if_false, Bool.false_eq_true, decide_eq_true_eq, true_and, List.length_map]
      exact fin _ _ _ _ _ _ _ _ _ h1 h2 (Int.ediv_nonneg h3 (by omega)) h4 h5 (Int.emod_nonneg _ (by omega)) (Int.emod_lt_of_pos _ (by omega))
    · simp only [t__law_take_0_3, dSeq, dNext, dIf, dOrT, dAndT, dNotT, dBl, kBl, dTru, kTru, DL.truD, dOp, dCl, s1, s2, dCons, dNil, dVar, dMov, dC, kLenN, peek, lenW, noDict, lenD, sCmp, sOrd, sEq, kEq, sIn, sIsN, nonW, sInt, sAdd, sMul, sRows, rowD, flat, dsOf, seqW, dRet, dRetN, dDrop, dBrk, dCnt, dAsg, gN, gTp, gsCons, gsNil, DL.gSub, setW, useW, useWs, useD, nosto, nostos, fz, fzs, dCall, dCall0, argsD, argD, dLst, dTup, dIte, dAnd, dOr, dNot, dNeg, dBm, isTy, mApp, sIx, kItem, rowOf, dSl, kSl, dNo, dSo, kInt, kStr, kRepr, kListOf, kIsi, tyN, dFor, dRow, dRng1, dRng2, dComp, wipeE, dYes, dJoin, dJs, dFmt, kFmt, pkS, kI2, kAbs, okq, eqv, okqs, eqvs, kCat, dsOf_map, nostos_d, fzs_d, List.getElem?_cons_zero, List.getElem?_cons_succ, List.set_cons_zero, List.set_cons_succ, List.length_cons, List.length_nil, Option.bind_some, Option.map_some, if_true, if_false, Bool.false_eq_true, decide_eq_true_eq, true_and, List.length_map, a6_3, i6_3]
      simp only [t__law_take_0_4, dSeq, dNext, dIf, dOrT, dAndT, dNotT, dBl, kBl, dTru, kTru, DL.truD, dOp, dCl, s1, s2, dCons, dNil, dVar, dMov, dC, kLenN, peek, lenW, noDict, lenD, sCmp, sOrd, sEq, kEq, sIn, sIsN, nonW, sInt, sAdd, sMul, sRows, rowD, flat, dsOf, seqW, dRet, dRetN, dDrop, dBrk, dCnt, dAsg, gN, gTp, gsCons, gsNil, DL.gSub, setW, useW, useWs, useD, nosto, nostos, fz, fzs, dCall, dCall0, argsD, argD, dLst, dTup, dIte, dAnd, dOr, dNot, dNeg, dBm, isTy, mApp, sIx, kItem, rowOf, dSl, kSl, dNo, dSo, kInt, kStr, kRepr, kListOf, kIsi, tyN, dFor, dRow, dRng1, dRng2, dComp, wipeE, dYes, dJoin, dJs, dFmt, kFmt, pkS, kI2, kAbs, okq, eqv, okqs, eqvs, kCat, dsOf_map, nostos_d, fzs_d, List.getElem?_cons_zero, List.getElem?_cons_succ, List.set_cons_zero, List.set_cons_succ, List.length_cons, List.length_nil, Option.bind_some, Option.map_some, if_true, if_false, Bool.false_eq_true, decide_eq_true_eq, true_and, List.length_map, a6_4, a6_5, i6_4]
      refine ⟨mulR (by decide) (by decide), mulR (by decide) (by decide), by decide, ?_⟩
      have q0 := Int.emod_nonneg (r * 48271 + c * 7919 + 11) (b := 2147483647) (by decide)
      have q1 := Int.emod_lt_of_pos (r * 48271 + c * 7919 + 11) (b := 2147483647) (by decide)
      generalize (r * 48271 + c * 7919 + 11) % 2147483647 = r2 at q0 q1 ⊢
      simp only [t__law_take_0_5, dSeq, dNext, dIf, dOrT, dAndT, dNotT, dBl, kBl, dTru, kTru, DL.truD, dOp, dCl, s1, s2, dCons, dNil, dVar, dMov, dC, kLenN, peek, lenW, noDict, lenD, sCmp, sOrd, sEq, kEq, sIn, sIsN, nonW, sInt, sAdd, sMul, sRows, rowD, flat, dsOf, seqW, dRet, dRetN, dDrop, dBrk, dCnt, dAsg, gN, gTp, gsCons, gsNil, DL.gSub, setW, useW, useWs, useD, nosto, nostos, fz, fzs, dCall, dCall0, argsD, argD, dLst, dTup, dIte, dAnd, dOr, dNot, dNeg, dBm, isTy, mApp, sIx, kItem, rowOf, dSl, kSl, dNo, dSo, kInt, kStr, kRepr, kListOf, kIsi, tyN, dFor, dRow, dRng1, dRng2, dComp, wipeE, dYes, dJoin, dJs, dFmt, kFmt, pkS, kI2, kAbs, okq, eqv, okqs, eqvs, kCat, dsOf_map, nostos_d, fzs_d, List.getElem?_cons_zero, List.getElem?_cons_succ, List.set_cons_zero, List.set_cons_succ, List.length_cons, List.length_nil, Option.bind_some, Option.map_some, if_true, if_false, Bool.false_eq_true, decide_eq_true_eq, true_and, List.length_map, a6_4, a6_5]
      refine ⟨mulR (by omega) (by omega), mulR (by decide) (by decide), by decide, by decide, ?_⟩
      simp only [t__law_take_0_6, dSeq, dNext, dIf, dOrT, dAndT, dNotT, dBl, kBl, dTru, kTru, DL.truD, dOp, dCl, s1, s2, dCons, dNil, dVar, dMov, dC, kLenN, peek, lenW, noDict, lenD, sCmp, sOrd, sEq, kEq, sIn, sIsN, nonW, sInt, sAdd, sMul, sRows, rowD, flat, dsOf, seqW, dRet, dRetN, dDrop, dBrk, dCnt, dAsg, gN, gTp, gsCons, gsNil, DL.gSub, setW, useW, useWs, useD, nosto, nostos, fz, fzs, dCall, dCall0, argsD, argD, dLst, dTup, dIte, dAnd, dOr, dNot, dNeg, dBm, isTy, mApp, sIx, kItem, rowOf, dSl, kSl, dNo, dSo, kInt, kStr, kRepr, kListOf, kIsi, tyN, dFor, dRow, dRng1, dRng2, dComp, wipeE, dYes, dJoin, dJs, dFmt, kFmt, pkS, kI2, kAbs, okq, eqv, okqs, eqvs, kCat, dsOf_map, nostos_d, fzs_d, List.getElem?_cons_zero, List.getElem?_cons_succ, List.set_cons_zero, List.set_cons_succ, List.length_cons, List.length_nil, Option.bind_some, Option.map_some, if_true, if_false, Bool.false_eq_true, decide_eq_true_eq, true_and, List.length_map, a6_4]
      refine ⟨mulR (by decide) (by decide), ⟨by decide, by decide⟩, by decide, by decide, ?_⟩
      simp only [t__law_take_0_7, dSeq, dNext, dIf, dOrT, dAndT, dNotT, dBl, kBl, dTru, kTru, DL.truD, dOp, dCl, s1, s2, dCons, dNil, dVar, dMov, dC, kLenN, peek, lenW, noDict, lenD, sCmp, sOrd, sEq, kEq, sIn, sIsN, nonW, sInt, sAdd, sMul, sRows, rowD, flat, dsOf, seqW, dRet, dRetN, dDrop, dBrk, dCnt, dAsg, gN, gTp, gsCons, gsNil, DL.gSub, setW, useW, useWs, useD, nosto, nostos, fz, fzs, dCall, dCall0, argsD, argD, dLst, dTup, dIte, dAnd, dOr, dNot, dNeg, dBm, isTy, mApp, sIx, kItem, rowOf, dSl, kSl, dNo, dSo, kInt, kStr, kRepr, kListOf, kIsi, tyN, dFor, dRow, dRng1, dRng2, dComp, wipeE, dYes, dJoin, dJs, dFmt, kFmt, pkS, kI2, kAbs, okq, eqv, okqs, eqvs, kCat, dsOf_map, nostos_d, fzs_d, List.getElem?_cons_zero, List.getElem?_cons_succ, List.set_cons_zero, List.set_cons_succ, List.length_cons, List.length_nil, Option.bind_some, Option.map_some, if_true, if_false, Bool.false_eq_true, decide_eq_true_eq, true_and, List.length_map]
      refine ⟨⟨by decide, by decide⟩, by omega, ?_⟩
      exact ⟨_, _, rfl, Int.emod_nonneg _ (by omega), Int.emod_lt_of_pos _ (by omega), rfl, xs, _, _, _, _, _, rfl, h1, h2, h3, q0, q1⟩
  simp only [t__law_take, t__law_take_0_0, dSeq, dNext, dIf, dOrT, dAndT, dNotT, dBl, kBl, dTru, kTru, DL.truD, dOp, dCl, s1, s2, dCons, dNil, dVar, dMov, dC, kLenN, peek, lenW, noDict, lenD, sCmp, sOrd, sEq, kEq, sIn, sIsN, nonW, sInt, sAdd, sMul, sRows, rowD, flat, dsOf, seqW, dRet, dRetN, dDrop, dBrk, dCnt, dAsg, gN, gTp, gsCons, gsNil, DL.gSub, setW, useW, useWs, useD, nosto, nostos, fz, fzs, dCall, dCall0, argsD, argD, dLst, dTup, dIte, dAnd, dOr, dNot, dNeg, dBm, isTy, mApp, sIx, kItem, rowOf, dSl, kSl, dNo, dSo, kInt, kStr, kRepr, kListOf, kIsi, tyN, dFor, dRow, dRng1, dRng2, dComp, wipeE, dYes, dJoin, dJs, dFmt, kFmt, pkS, kI2, kAbs, okq, eqv, okqs, eqvs, kCat, dsOf_map, nostos_d, fzs_d, List.getElem?_cons_zero, List.getElem?_cons_succ, List.set_cons_zero, List.set_cons_succ, List.length_cons, List.length_nil, Option.bind_some, Option.map_some, if_true, if_false, Bool.false_eq_true, decide_eq_true_eq, true_and, List.length_map, a6_5, i6_5]
  simp only [t__law_take_0_1, dSeq, dNext, dIf, dOrT, dAndT, dNotT, dBl, kBl, dTru, kTru, DL.truD, dOp, dCl, s1, s2, dCons, dNil, dVar, dMov, dC, kLenN, peek, lenW, noDict, lenD, sCmp, sOrd, sEq, kEq, sIn, sIsN, nonW, sInt, sAdd, sMul, sRows, rowD, flat, dsOf, seqW, dRet, dRetN, dDrop, dBrk, dCnt, dAsg, gN, gTp, gsCons, gsNil, DL.gSub, setW, useW, useWs, useD, nosto, nostos, fz, fzs, dCall, dCall0, argsD, argD, dLst, dTup, dIte, dAnd, dOr, dNot, dNeg, dBm, isTy, mApp, sIx, kItem, rowOf, dSl, kSl, dNo, dSo, kInt, kStr, kRepr, kListOf, kIsi, tyN, dFor, dRow, dRng1, dRng2, dComp, wipeE, dYes, dJoin, dJs, dFmt, kFmt, pkS, kI2, kAbs, okq, eqv, okqs, eqvs, kCat, dsOf_map, nostos_d, fzs_d, List.getElem?_cons_zero, List.getElem?_cons_succ, List.set_cons_zero, List.set_cons_succ, List.length_cons, List.length_nil, Option.bind_some, Option.map_some, if_true, if_false, Bool.false_eq_true, decide_eq_true_eq, true_and, List.length_map, a6_0, a6_1, a6_2, a6_3, Bool.false_bne]
  split
  rotate_left
  · exact tail _ _ _ _ _ _ _ hx p0 g0 r0 r1
  split
  rotate_left
  · exact tail _ _ _ _ _ _ _ hx p0 g0 r0 r1
  refine ⟨Nat.zero_le _, ?_⟩
  split
  rotate_left
  · exact tail _ _ _ _ _ _ _ hx p0 g0 r0 r1
  rename_i hp
  obtain ⟨j, rfl⟩ : ∃ j : Nat, p = j := ⟨p.toNat, by omega⟩
  have hj : j < xs.length := by omega
  obtain ⟨x, ex⟩ : ∃ x, xs[j]? = some x := ⟨xs[j], List.getElem?_eq_getElem hj⟩
  have ea : L2.atI (xs.map W.d) (j : Int) = some (W.d x) := L2.atI_nat (by rw [List.getElem?_map, ex]; rfl)
  have cx := hx x (List.mem_of_getElem? ex)
  obtain ⟨t, n, rfl, n0⟩ : ∃ t n, x = .lst [.int t, .int n] ∧ 0 ≤ n := by
    unfold cellOk at cx
    split at cx
    · exact ⟨_, _, rfl, cx⟩
    · exact cx.elim
  simp only [t__law_take_2_0, dSeq, dNext, dIf, dOrT, dAndT, dNotT, dBl, kBl, dTru, kTru, DL.truD, dOp, dCl, s1, s2, dCons, dNil, dVar, dMov, dC, kLenN, peek, lenW, noDict, lenD, sCmp, sOrd, sEq, kEq, sIn, sIsN, nonW, sInt, sAdd, sMul, sRows, rowD, flat, dsOf, seqW, dRet, dRetN, dDrop, dBrk, dCnt, dAsg, gN, gTp, gsCons, gsNil, DL.gSub, setW, useW, useWs, useD, nosto, nostos, fz, fzs, dCall, dCall0, argsD, argD, dLst, dTup, dIte, dAnd, dOr, dNot, dNeg, dBm, isTy, mApp, sIx, kItem, rowOf, dSl, kSl, dNo, dSo, kInt, kStr, kRepr, kListOf, kIsi, tyN, dFor, dRow, dRng1, dRng2, dComp, wipeE, dYes, dJoin, dJs, dFmt, kFmt, pkS, kI2, kAbs, okq, eqv, okqs, eqvs, kCat, dsOf_map, nostos_d, fzs_d, List.getElem?_cons_zero, List.getElem?_cons_succ, List.set_cons_zero, List.set_cons_succ, List.length_cons, List.length_nil, Option.bind_some, Option.map_some, if_true, if_false, Bool.false_eq_true, decide_eq_true_eq, true_and, List.length_map, a6_0, a6_1, ea]
  refine ⟨by decide, ?_⟩
  simp only [t__law_take_2_1, dSeq, dNext, dIf, dOrT, dAndT, dNotT, dBl, kBl, dTru, kTru, DL.truD, dOp, dCl, s1, s2, dCons, dNil, dVar, dMov, dC, kLenN, peek, lenW, noDict, lenD, sCmp, sOrd, sEq, kEq, sIn, sIsN, nonW, sInt, sAdd, sMul, sRows, rowD, flat, dsOf, seqW, dRet, dRetN, dDrop, dBrk, dCnt, dAsg, gN, gTp, gsCons, gsNil, DL.gSub, setW, useW, useWs, useD, nosto, nostos, fz, fzs, dCall, dCall0, argsD, argD, dLst, dTup, dIte, dAnd, dOr, dNot, dNeg, dBm, isTy, mApp, sIx, kItem, rowOf, dSl, kSl, dNo, dSo, kInt, kStr, kRepr, kListOf, kIsi, tyN, dFor, dRow, dRng1, dRng2, dComp, wipeE, dYes, dJoin, dJs, dFmt, kFmt, pkS, kI2, kAbs, okq, eqv, okqs, eqvs, kCat, dsOf_map, nostos_d, fzs_d, List.getElem?_cons_zero, List.getElem?_cons_succ, List.set_cons_zero, List.set_cons_succ, List.length_cons, List.length_nil, Option.bind_some, Option.map_some, if_true, if_false, Bool.false_eq_true, decide_eq_true_eq, true_and, List.length_map, a6_1, i6_1]
  simp only [t__law_take_2_2, dSeq, dNext, dIf, dOrT, dAndT, dNotT, dBl, kBl, dTru, kTru, DL.truD, dOp, dCl, s1, s2, dCons, dNil, dVar, dMov, dC, kLenN, peek, lenW, noDict, lenD, sCmp, sOrd, sEq, kEq, sIn, sIsN, nonW, sInt, sAdd, sMul, sRows, rowD, flat, dsOf, seqW, dRet, dRetN, dDrop, dBrk, dCnt, dAsg, gN, gTp, gsCons, gsNil, DL.gSub, setW, useW, useWs, useD, nosto, nostos, fz, fzs, dCall, dCall0, argsD, argD, dLst, dTup, dIte, dAnd, dOr, dNot, dNeg, dBm, isTy, mApp, sIx, kItem, rowOf, dSl, kSl, dNo, dSo, kInt, kStr, kRepr, kListOf, kIsi, tyN, dFor, dRow, dRng1, dRng2, dComp, wipeE, dYes, dJoin, dJs, dFmt, kFmt, pkS, kI2, kAbs, okq, eqv, okqs, eqvs, kCat, dsOf_map, nostos_d, fzs_d, List.getElem?_cons_zero, List.getElem?_cons_succ, List.set_cons_zero, List.set_cons_succ, List.length_cons, List.length_nil, Option.bind_some, Option.map_some, if_true, if_false, Bool.false_eq_true, decide_eq_true_eq, true_and, List.length_map, a6_4, i6_4, List.map_cons, List.map_nil, a2_1]
  refine ⟨mulR (by decide) (by decide), by decide, mulR (by decide) (by decide), by decide, ?_⟩
  have q0 := Int.emod_nonneg (r * 69621 + n % 2147483647 * 40014 + 12345) (b := 2147483647) (by decide)
  have q1 := Int.emod_lt_of_pos (r * 69621 + n % 2147483647 * 40014 + 12345) (b := 2147483647) (by decide)
  generalize (r * 69621 + n % 2147483647 * 40014 + 12345) % 2147483647 = r2 at q0 q1 ⊢
  simp only [t__law_take_2_3, dSeq, dNext, dIf, dOrT, dAndT, dNotT, dBl, kBl, dTru, kTru, DL.truD, dOp, dCl, s1, s2, dCons, dNil, dVar, dMov, dC, kLenN, peek, lenW, noDict, lenD, sCmp, sOrd, sEq, kEq, sIn, sIsN, nonW, sInt, sAdd, sMul, sRows, rowD, flat, dsOf, seqW, dRet, dRetN, dDrop, dBrk, dCnt, dAsg, gN, gTp, gsCons, gsNil, DL.gSub, setW, useW, useWs, useD, nosto, nostos, fz, fzs, dCall, dCall0, argsD, argD, dLst, dTup, dIte, dAnd, dOr, dNot, dNeg, dBm, isTy, mApp, sIx, kItem, rowOf, dSl, kSl, dNo, dSo, kInt, kStr, kRepr, kListOf, kIsi, tyN, dFor, dRow, dRng1, dRng2, dComp, wipeE, dYes, dJoin, dJs, dFmt, kFmt, pkS, kI2, kAbs, okq, eqv, okqs, eqvs, kCat, dsOf_map, nostos_d, fzs_d, List.getElem?_cons_zero, List.getElem?_cons_succ, List.set_cons_zero, List.set_cons_succ, List.length_cons, List.length_nil, Option.bind_some, Option.map_some, if_true, if_false, Bool.false_eq_true, decide_eq_true_eq, true_and, List.length_map, List.map_cons, List.map_nil, a2_0, Bool.false_bne]
  split
  · simp only [t__law_take_3_0, dSeq, dNext, dIf, dOrT, dAndT, dNotT, dBl, kBl, dTru, kTru, DL.truD, dOp, dCl, s1, s2, dCons, dNil, dVar, dMov, dC, kLenN, peek, lenW, noDict, lenD, sCmp, sOrd, sEq, kEq, sIn, sIsN, nonW, sInt, sAdd, sMul, sRows, rowD, flat, dsOf, seqW, dRet, dRetN, dDrop, dBrk, dCnt, dAsg, gN, gTp, gsCons, gsNil, DL.gSub, setW, useW, useWs, useD, nosto, nostos, fz, fzs, dCall, dCall0, argsD, argD, dLst, dTup, dIte, dAnd, dOr, dNot, dNeg, dBm, isTy, mApp, sIx, kItem, rowOf, dSl, kSl, dNo, dSo, kInt, kStr, kRepr, kListOf, kIsi, tyN, dFor, dRow, dRng1, dRng2, dComp, wipeE, dYes, dJoin, dJs, dFmt, kFmt, pkS, kI2, kAbs, okq, eqv, okqs, eqvs, kCat, dsOf_map, nostos_d, fzs_d, List.getElem?_cons_zero, List.getElem?_cons_succ, List.set_cons_zero, List.set_cons_succ, List.length_cons, List.length_nil, Option.bind_some, Option.map_some, if_true, if_false, Bool.false_eq_true, decide_eq_true_eq, true_and, List.length_map, List.map_cons, List.map_nil, a2_1, i6_2]
    exact tail _ _ _ _ _ _ _ hx (by omega) n0 q0 q1
  · simp only [t__law_take_4_0, dSeq, dNext, dIf, dOrT, dAndT, dNotT, dBl, kBl, dTru, kTru, DL.truD, dOp, dCl, s1, s2, dCons, dNil, dVar, dMov, dC, kLenN, peek, lenW, noDict, lenD, sCmp, sOrd, sEq, kEq, sIn, sIsN, nonW, sInt, sAdd, sMul, sRows, rowD, flat, dsOf, seqW, dRet, dRetN, dDrop, dBrk, dCnt, dAsg, gN, gTp, gsCons, gsNil, DL.gSub, setW, useW, useWs, useD, nosto, nostos, fz, fzs, dCall, dCall0, argsD, argD, dLst, dTup, dIte, dAnd, dOr, dNot, dNeg, dBm, isTy, mApp, sIx, kItem, rowOf, dSl, kSl, dNo, dSo, kInt, kStr, kRepr, kListOf, kIsi, tyN, dFor, dRow, dRng1, dRng2, dComp, wipeE, dYes, dJoin, dJs, dFmt, kFmt, pkS, kI2, kAbs, okq, eqv, okqs, eqvs, kCat, dsOf_map, nostos_d, fzs_d, List.getElem?_cons_zero, List.getElem?_cons_succ, List.set_cons_zero, List.set_cons_succ, List.length_cons, List.length_nil, Option.bind_some, Option.map_some, if_true, if_false, Bool.false_eq_true, decide_eq_true_eq, true_and, List.length_map, i6_3]
    exact tail _ _ _ _ _ _ _ hx (by omega) g0 q0 q1
def cellW (p : Int × Int) : W := .ol [.d (.int p.1), .d (.int p.2)]
theorem fzs_cell : ∀ l : List (Int × Int), fzs (l.map cellW) = l.map fun p => D.lst [.int p.1, .int p.2]
  | [] => rfl
  | p :: l => by show fz (cellW p) :: fzs (l.map cellW) = _; rw [fzs_cell]; rfl
theorem nosto_cell : ∀ l : List (Int × Int), nostos (l.map cellW) = true
  | [] => rfl
  | p :: l => by show (true && nostos (l.map cellW)) = true; rw [nosto_cell]; rfl
theorem p__law_store : ∀ ws k kx, ws.length = 1 → S__law_store ws k kx → t__law_store (retE k) (fun x _ => kx x) (startE N__law_store ws) := by
  rintro ws k kx - ⟨ns, rfl, hn, hk⟩
  rw [se__law_store]
  simp only [t__law_store, t__law_store_0_0, dSeq, dNext, dIf, dOrT, dAndT, dNotT, dBl, kBl, dTru, kTru, DL.truD, dOp, dCl, s1, s2, dCons, dNil, dVar, dMov, dC, kLenN, peek, lenW, noDict, lenD, sCmp, sOrd, sEq, kEq, sIn, sIsN, nonW, sInt, sAdd, sMul, sRows, rowD, flat, dsOf, seqW, dRet, dRetN, dDrop, dBrk, dCnt, dAsg, gN, gTp, gsCons, gsNil, DL.gSub, setW, useW, useWs, useD, nosto, nostos, fz, fzs, dCall, dCall0, argsD, argD, dLst, dTup, dIte, dAnd, dOr, dNot, dNeg, dBm, isTy, mApp, sIx, kItem, rowOf, dSl, kSl, dNo, dSo, kInt, kStr, kRepr, kListOf, kIsi, tyN, dFor, dRow, dRng1, dRng2, dComp, wipeE, dYes, dJoin, dJs, dFmt, kFmt, pkS, kI2, kAbs, okq, eqv, okqs, eqvs, kCat, dsOf_map, nostos_d, fzs_d, List.getElem?_cons_zero, List.getElem?_cons_succ, List.set_cons_zero, List.set_cons_succ, List.length_cons, List.length_nil, Option.bind_some, Option.map_some, if_true, if_false, Bool.false_eq_true, decide_eq_true_eq, true_and, List.length_map]
  refine ⟨⟨by decide, by decide +kernel⟩, ⟨by decide, by decide +kernel⟩, by decide, ?_⟩
  have gp : (0 : Int) < (10 ^ Int.toNat 60) ^ Int.toNat 10 := Int.pow_pos (Int.pow_pos (by decide))
  generalize ((10 : Int) ^ Int.toNat 60) ^ Int.toNat 10 = G at gp ⊢
  simp only [t__law_store_0_1, dSeq, dNext, dIf, dOrT, dAndT, dNotT, dBl, kBl, dTru, kTru, DL.truD, dOp, dCl, s1, s2, dCons, dNil, dVar, dMov, dC, kLenN, peek, lenW, noDict, lenD, sCmp, sOrd, sEq, kEq, sIn, sIsN, nonW, sInt, sAdd, sMul, sRows, rowD, flat, dsOf, seqW, dRet, dRetN, dDrop, dBrk, dCnt, dAsg, gN, gTp, gsCons, gsNil, DL.gSub, setW, useW, useWs, useD, nosto, nostos, fz, fzs, dCall, dCall0, argsD, argD, dLst, dTup, dIte, dAnd, dOr, dNot, dNeg, dBm, isTy, mApp, sIx, kItem, rowOf, dSl, kSl, dNo, dSo, kInt, kStr, kRepr, kListOf, kIsi, tyN, dFor, dRow, dRng1, dRng2, dComp, wipeE, dYes, dJoin, dJs, dFmt, kFmt, pkS, kI2, kAbs, okq, eqv, okqs, eqvs, kCat, dsOf_map, nostos_d, fzs_d, List.getElem?_cons_zero, List.getElem?_cons_succ, List.set_cons_zero, List.set_cons_succ, List.length_cons, List.length_nil, Option.bind_some, Option.map_some, if_true, if_false, Bool.false_eq_true, decide_eq_true_eq, true_and, List.length_map, useWs]
  refine ⟨by decide, by decide, ?_⟩
  simp only [t__law_store_0_2, dSeq, dNext, dIf, dOrT, dAndT, dNotT, dBl, kBl, dTru, kTru, DL.truD, dOp, dCl, s1, s2, dCons, dNil, dVar, dMov, dC, kLenN, peek, lenW, noDict, lenD, sCmp, sOrd, sEq, kEq, sIn, sIsN, nonW, sInt, sAdd, sMul, sRows, rowD, flat, dsOf, seqW, dRet, dRetN, dDrop, dBrk, dCnt, dAsg, gN, gTp, gsCons, gsNil, DL.gSub, setW, useW, useWs, useD, nosto, nostos, fz, fzs, dCall, dCall0, argsD, argD, dLst, dTup, dIte, dAnd, dOr, dNot, dNeg, dBm, isTy, mApp, sIx, kItem, rowOf, dSl, kSl, dNo, dSo, kInt, kStr, kRepr, kListOf, kIsi, tyN, dFor, dRow, dRng1, dRng2, dComp, wipeE, dYes, dJoin, dJs, dFmt, kFmt, pkS, kI2, kAbs, okq, eqv, okqs, eqvs, kCat, dsOf_map, nostos_d, fzs_d, List.getElem?_cons_zero, List.getElem?_cons_succ, List.set_cons_zero, List.set_cons_succ, List.length_cons, List.length_nil, Option.bind_some, Option.map_some, if_true, if_false, Bool.false_eq_true, decide_eq_true_eq, true_and, List.length_map, map_d]
  refine forL_ind (fun r env => ∃ (l : List (Int × Int)) (o : Option W), env = [some (.d (.klst (ns.map .int))), some (.d (.int G)), some (.ol (l.map cellW)), o] ∧ (∀ w ∈ r, ∃ i, w = .d (.int i)) ∧ (∀ p ∈ l, 0 ≤ p.2) ∧ l.length + r.length ≤ 63) (fun w r env K h hK => ?_) ⟨[], none, rfl, fun w m => ?_, fun _ m => (by simp at m), by simpa using hn⟩ (fun e h => ?_)
  · obtain ⟨l, o, rfl, hw, hl, hn⟩ := h
    obtain ⟨i, rfl⟩ := hw _ List.mem_cons_self
    have hw' : ∀ w ∈ r, ∃ i, w = .d (.int i) := fun w m => hw w (List.mem_cons_of_mem _ m)
    simp only [List.length_cons] at hn
    have next : ∀ t n o, 0 ≤ n → K [some (.d (.klst (ns.map .int))), some (.d (.int G)), some (.ol (l.map cellW ++ [.ol [.d (.int t), .d (.int n)]])), o] := fun t n o h0 =>
      hK _ ⟨l ++ [(t, n)], o, by rw [List.map_append]; rfl, hw', fun p m => (List.mem_append.mp m).elim (hl p) fun m => by rw [List.mem_singleton.mp m]; exact h0, by rw [List.length_append]; simp only [List.length_cons, List.length_nil]; omega⟩
    have lo : l.length < sizeLine := by rw [sizeLine_eq]; omega
    have A : t__law_store_2_0 { nx := K, rt := (retE k).rt, bk := fun e1 => t__law_store_0_3 (retE k) (fun x _ => kx x) e1, ct := K } (fun x _ => kx x) [some (.d (.klst (ns.map .int))), some (.d (.int G)), some (.ol (l.map cellW)), some (.d (.int i))] := by
      simp only [t__law_store_2_0, dSeq, dNext, dIf, dOrT, dAndT, dNotT, dBl, kBl, dTru, kTru, DL.truD, dOp, dCl, s1, s2, dCons, dNil, dVar, dMov, dC, kLenN, peek, lenW, noDict, lenD, sCmp, sOrd, sEq, kEq, sIn, sIsN, nonW, sInt, sAdd, sMul, sRows, rowD, flat, dsOf, seqW, dRet, dRetN, dDrop, dBrk, dCnt, dAsg, gN, gTp, gsCons, gsNil, DL.gSub, setW, useW, useWs, useD, nosto, nostos, fz, fzs, dCall, dCall0, argsD, argD, dLst, dTup, dIte, dAnd, dOr, dNot, dNeg, dBm, isTy, mApp, sIx, kItem, rowOf, dSl, kSl, dNo, dSo, kInt, kStr, kRepr, kListOf, kIsi, tyN, dFor, dRow, dRng1, dRng2, dComp, wipeE, dYes, dJoin, dJs, dFmt, kFmt, pkS, kI2, kAbs, okq, eqv, okqs, eqvs, kCat, dsOf_map, nostos_d, fzs_d, List.getElem?_cons_zero, List.getElem?_cons_succ, List.set_cons_zero, List.set_cons_succ, List.length_cons, List.length_nil, Option.bind_some, Option.map_some, if_true, if_false, Bool.false_eq_true, decide_eq_true_eq, true_and, List.length_map, useWs]
      exact ⟨gp, szl (by decide), rfl, lo, next _ _ _ (Int.emod_nonneg _ (by omega))⟩
    have B : t__law_store_3_0 { nx := K, rt := (retE k).rt, bk := fun e1 => t__law_store_0_3 (retE k) (fun x _ => kx x) e1, ct := K } (fun x _ => kx x) [some (.d (.klst (ns.map .int))), some (.d (.int G)), some (.ol (l.map cellW)), some (.d (.int i))] := by
      simp only [t__law_store_3_0, dSeq, dNext, dIf, dOrT, dAndT, dNotT, dBl, kBl, dTru, kTru, DL.truD, dOp, dCl, s1, s2, dCons, dNil, dVar, dMov, dC, kLenN, peek, lenW, noDict, lenD, sCmp, sOrd, sEq, kEq, sIn, sIsN, nonW, sInt, sAdd, sMul, sRows, rowD, flat, dsOf, seqW, dRet, dRetN, dDrop, dBrk, dCnt, dAsg, gN, gTp, gsCons, gsNil, DL.gSub, setW, useW, useWs, useD, nosto, nostos, fz, fzs, dCall, dCall0, argsD, argD, dLst, dTup, dIte, dAnd, dOr, dNot, dNeg, dBm, isTy, mApp, sIx, kItem, rowOf, dSl, kSl, dNo, dSo, kInt, kStr, kRepr, kListOf, kIsi, tyN, dFor, dRow, dRng1, dRng2, dComp, wipeE, dYes, dJoin, dJs, dFmt, kFmt, pkS, kI2, kAbs, okq, eqv, okqs, eqvs, kCat, dsOf_map, nostos_d, fzs_d, List.getElem?_cons_zero, List.getElem?_cons_succ, List.set_cons_zero, List.set_cons_succ, List.length_cons, List.length_nil, Option.bind_some, Option.map_some, if_true, if_false, Bool.false_eq_true, decide_eq_true_eq, true_and, List.length_map, useWs]
      exact ⟨by decide, szl (by decide), rfl, lo, next _ _ _ (Int.emod_nonneg _ (by decide))⟩
    simp only [t__law_store_1_0, dSeq, dNext, dIf, dOrT, dAndT, dNotT, dBl, kBl, dTru, kTru, DL.truD, dOp, dCl, s1, s2, dCons, dNil, dVar, dMov, dC, kLenN, peek, lenW, noDict, lenD, sCmp, sOrd, sEq, kEq, sIn, sIsN, nonW, sInt, sAdd, sMul, sRows, rowD, flat, dsOf, seqW, dRet, dRetN, dDrop, dBrk, dCnt, dAsg, gN, gTp, gsCons, gsNil, DL.gSub, setW, useW, useWs, useD, nosto, nostos, fz, fzs, dCall, dCall0, argsD, argD, dLst, dTup, dIte, dAnd, dOr, dNot, dNeg, dBm, isTy, mApp, sIx, kItem, rowOf, dSl, kSl, dNo, dSo, kInt, kStr, kRepr, kListOf, kIsi, tyN, dFor, dRow, dRng1, dRng2, dComp, wipeE, dYes, dJoin, dJs, dFmt, kFmt, pkS, kI2, kAbs, okq, eqv, okqs, eqvs, kCat, dsOf_map, nostos_d, fzs_d, List.getElem?_cons_zero, List.getElem?_cons_succ, List.set_cons_zero, List.set_cons_succ, List.length_cons, List.length_nil, Option.bind_some, Option.map_some, if_true, if_false, Bool.false_eq_true, decide_eq_true_eq, true_and, List.length_map]
    refine ⟨by decide, ⟨by decide, by decide +kernel⟩, ?_⟩
    split
    · exact A
    · refine ⟨⟨by decide, by decide +kernel⟩, ?_⟩
      split
      · exact A
      · exact B
  · obtain ⟨i, _, rfl⟩ := List.mem_map.mp m
    exact ⟨_, rfl⟩
  · obtain ⟨l, o, rfl, hw, hl, hn⟩ := h
    simp only [t__law_store_0_3, dSeq, dNext, dIf, dOrT, dAndT, dNotT, dBl, kBl, dTru, kTru, DL.truD, dOp, dCl, s1, s2, dCons, dNil, dVar, dMov, dC, kLenN, peek, lenW, noDict, lenD, sCmp, sOrd, sEq, kEq, sIn, sIsN, nonW, sInt, sAdd, sMul, sRows, rowD, flat, dsOf, seqW, dRet, dRetN, dDrop, dBrk, dCnt, dAsg, gN, gTp, gsCons, gsNil, DL.gSub, setW, useW, useWs, useD, nosto, nostos, fz, fzs, dCall, dCall0, argsD, argD, dLst, dTup, dIte, dAnd, dOr, dNot, dNeg, dBm, isTy, mApp, sIx, kItem, rowOf, dSl, kSl, dNo, dSo, kInt, kStr, kRepr, kListOf, kIsi, tyN, dFor, dRow, dRng1, dRng2, dComp, wipeE, dYes, dJoin, dJs, dFmt, kFmt, pkS, kI2, kAbs, okq, eqv, okqs, eqvs, kCat, dsOf_map, nostos_d, fzs_d, List.getElem?_cons_zero, List.getElem?_cons_succ, List.set_cons_zero, List.set_cons_succ, List.length_cons, List.length_nil, Option.bind_some, Option.map_some, if_true, if_false, Bool.false_eq_true, decide_eq_true_eq, true_and, List.length_map, useWs, nosto_cell, fzs_cell, retE]
    refine ⟨Nat.zero_le _, mulR (by omega) (by have := hn; simp only [List.length_nil] at this; omega), szl (by decide), _, rfl, hk _ _ (fun x m => ?_) (by omega) (by have := hn; simp only [List.length_nil] at this; omega)⟩
    obtain ⟨p, mp, rfl⟩ := List.mem_map.mp m
    exact hl p mp
theorem p__law_pick : ∀ ws k kx, ws.length = 2 → S__law_pick ws k kx → t__law_pick (retE k) (fun x _ => kx x) (startE N__law_pick ws) := by
  rintro ws k kx - (⟨xs, rfl, hn, hl, hk⟩ | ⟨s, rfl, hn, hl, hk⟩)
  · rw [se__law_pick]
    have h0 : 0 < xs.length := List.length_pos_iff.mpr hn
    simp only [t__law_pick, t__law_pick_0_0, dSeq, dNext, dIf, dOrT, dAndT, dNotT, dBl, kBl, dTru, kTru, DL.truD, dOp, dCl, s1, s2, dCons, dNil, dVar, dMov, dC, kLenN, peek, lenW, noDict, lenD, sCmp, sOrd, sEq, kEq, sIn, sIsN, nonW, sInt, sAdd, sMul, sRows, rowD, flat, dsOf, seqW, dRet, dRetN, dDrop, dBrk, dCnt, dAsg, gN, gTp, gsCons, gsNil, DL.gSub, setW, useW, useWs, useD, nosto, nostos, fz, fzs, dCall, dCall0, argsD, argD, dLst, dTup, dIte, dAnd, dOr, dNot, dNeg, dBm, isTy, mApp, sIx, kItem, rowOf, dSl, kSl, dNo, dSo, kInt, kStr, kRepr, kListOf, kIsi, tyN, dFor, dRow, dRng1, dRng2, dComp, wipeE, dYes, dJoin, dJs, dFmt, kFmt, pkS, kI2, kAbs, okq, eqv, okqs, eqvs, kCat, dsOf_map, nostos_d, fzs_d, List.getElem?_cons_zero, List.getElem?_cons_succ, List.set_cons_zero, List.set_cons_succ, List.length_cons, List.length_nil, Option.bind_some, Option.map_some, if_true, if_false, Bool.false_eq_true, decide_eq_true_eq, true_and, List.length_map, S__law_take, S_take]
    refine ⟨Nat.zero_le _, _, rfl, by omega, by omega, fun i i0 i1 => ?_⟩
    obtain ⟨j, rfl⟩ : ∃ j : Nat, i = j := ⟨i.toNat, by omega⟩
    have hj : j < xs.length := by omega
    have ea : L2.atI (xs.map W.d) (j : Int) = some (W.d xs[j]) := L2.atI_nat (by rw [List.getElem?_map, List.getElem?_eq_getElem hj]; rfl)
    simp only [dSeq, dNext, dIf, dOrT, dAndT, dNotT, dBl, kBl, dTru, kTru, DL.truD, dOp, dCl, s1, s2, dCons, dNil, dVar, dMov, dC, kLenN, peek, lenW, noDict, lenD, sCmp, sOrd, sEq, kEq, sIn, sIsN, nonW, sInt, sAdd, sMul, sRows, rowD, flat, dsOf, seqW, dRet, dRetN, dDrop, dBrk, dCnt, dAsg, gN, gTp, gsCons, gsNil, DL.gSub, setW, useW, useWs, useD, nosto, nostos, fz, fzs, dCall, dCall0, argsD, argD, dLst, dTup, dIte, dAnd, dOr, dNot, dNeg, dBm, isTy, mApp, sIx, kItem, rowOf, dSl, kSl, dNo, dSo, kInt, kStr, kRepr, kListOf, kIsi, tyN, dFor, dRow, dRng1, dRng2, dComp, wipeE, dYes, dJoin, dJs, dFmt, kFmt, pkS, kI2, kAbs, okq, eqv, okqs, eqvs, kCat, dsOf_map, nostos_d, fzs_d, List.getElem?_cons_zero, List.getElem?_cons_succ, List.set_cons_zero, List.set_cons_succ, List.length_cons, List.length_nil, Option.bind_some, Option.map_some, if_true, if_false, Bool.false_eq_true, decide_eq_true_eq, true_and, List.length_map, clear, flatL, ea, retE]
    exact ⟨_, rfl, hk _ (List.getElem_mem hj)⟩
  · rw [se__law_pick]
    have h0 : 0 < s.length := List.length_pos_iff.mpr hn
    simp only [t__law_pick, t__law_pick_0_0, dSeq, dNext, dIf, dOrT, dAndT, dNotT, dBl, kBl, dTru, kTru, DL.truD, dOp, dCl, s1, s2, dCons, dNil, dVar, dMov, dC, kLenN, peek, lenW, noDict, lenD, sCmp, sOrd, sEq, kEq, sIn, sIsN, nonW, sInt, sAdd, sMul, sRows, rowD, flat, dsOf, seqW, dRet, dRetN, dDrop, dBrk, dCnt, dAsg, gN, gTp, gsCons, gsNil, DL.gSub, setW, useW, useWs, useD, nosto, nostos, fz, fzs, dCall, dCall0, argsD, argD, dLst, dTup, dIte, dAnd, dOr, dNot, dNeg, dBm, isTy, mApp, sIx, kItem, rowOf, dSl, kSl, dNo, dSo, kInt, kStr, kRepr, kListOf, kIsi, tyN, dFor, dRow, dRng1, dRng2, dComp, wipeE, dYes, dJoin, dJs, dFmt, kFmt, pkS, kI2, kAbs, okq, eqv, okqs, eqvs, kCat, dsOf_map, nostos_d, fzs_d, List.getElem?_cons_zero, List.getElem?_cons_succ, List.set_cons_zero, List.set_cons_succ, List.length_cons, List.length_nil, Option.bind_some, Option.map_some, if_true, if_false, Bool.false_eq_true, decide_eq_true_eq, true_and, List.length_map, S__law_take, S_take]
    refine ⟨szl (by omega), _, rfl, by omega, by omega, fun i i0 i1 => ?_⟩
    obtain ⟨j, rfl⟩ : ∃ j : Nat, i = j := ⟨i.toNat, by omega⟩
    have hj : j < s.length := by omega
    have ea : L2.atI s (j : Int) = some s[j] := L2.atI_nat (List.getElem?_eq_getElem hj)
    simp only [dSeq, dNext, dIf, dOrT, dAndT, dNotT, dBl, kBl, dTru, kTru, DL.truD, dOp, dCl, s1, s2, dCons, dNil, dVar, dMov, dC, kLenN, peek, lenW, noDict, lenD, sCmp, sOrd, sEq, kEq, sIn, sIsN, nonW, sInt, sAdd, sMul, sRows, rowD, flat, dsOf, seqW, dRet, dRetN, dDrop, dBrk, dCnt, dAsg, gN, gTp, gsCons, gsNil, DL.gSub, setW, useW, useWs, useD, nosto, nostos, fz, fzs, dCall, dCall0, argsD, argD, dLst, dTup, dIte, dAnd, dOr, dNot, dNeg, dBm, isTy, mApp, sIx, kItem, rowOf, dSl, kSl, dNo, dSo, kInt, kStr, kRepr, kListOf, kIsi, tyN, dFor, dRow, dRng1, dRng2, dComp, wipeE, dYes, dJoin, dJs, dFmt, kFmt, pkS, kI2, kAbs, okq, eqv, okqs, eqvs, kCat, dsOf_map, nostos_d, fzs_d, List.getElem?_cons_zero, List.getElem?_cons_succ, List.set_cons_zero, List.set_cons_succ, List.length_cons, List.length_nil, Option.bind_some, Option.map_some, if_true, if_false, Bool.false_eq_true, decide_eq_true_eq, true_and, List.length_map, clear, flatL, ea, retE]
    exact ⟨szl (by omega), _, rfl, hk _ (List.getElem_mem hj)⟩
theorem p__law_between : ∀ ws k kx, ws.length = 3 → S__law_between ws k kx → t__law_between (retE k) (fun x _ => kx x) (startE N__law_between ws) := by
  rintro ws k kx - ⟨lo, hi, rfl, hle, hb, hk⟩
  rw [se__law_between]
  simp only [t__law_between, t__law_between_0_0, dSeq, dNext, dIf, dOrT, dAndT, dNotT, dBl, kBl, dTru, kTru, DL.truD, dOp, dCl, s1, s2, dCons, dNil, dVar, dMov, dC, kLenN, peek, lenW, noDict, lenD, sCmp, sOrd, sEq, kEq, sIn, sIsN, nonW, sInt, sAdd, sMul, sRows, rowD, flat, dsOf, seqW, dRet, dRetN, dDrop, dBrk, dCnt, dAsg, gN, gTp, gsCons, gsNil, DL.gSub, setW, useW, useWs, useD, nosto, nostos, fz, fzs, dCall, dCall0, argsD, argD, dLst, dTup, dIte, dAnd, dOr, dNot, dNeg, dBm, isTy, mApp, sIx, kItem, rowOf, dSl, kSl, dNo, dSo, kInt, kStr, kRepr, kListOf, kIsi, tyN, dFor, dRow, dRng1, dRng2, dComp, wipeE, dYes, dJoin, dJs, dFmt, kFmt, pkS, kI2, kAbs, okq, eqv, okqs, eqvs, kCat, dsOf_map, nostos_d, fzs_d, List.getElem?_cons_zero, List.getElem?_cons_succ, List.set_cons_zero, List.set_cons_succ, List.length_cons, List.length_nil, Option.bind_some, Option.map_some, if_true, if_false, Bool.false_eq_true, decide_eq_true_eq, true_and, List.length_map]
  split
  · simp only [t__law_between_4_0, dSeq, dNext, dIf, dOrT, dAndT, dNotT, dBl, kBl, dTru, kTru, DL.truD, dOp, dCl, s1, s2, dCons, dNil, dVar, dMov, dC, kLenN, peek, lenW, noDict, lenD, sCmp, sOrd, sEq, kEq, sIn, sIsN, nonW, sInt, sAdd, sMul, sRows, rowD, flat, dsOf, seqW, dRet, dRetN, dDrop, dBrk, dCnt, dAsg, gN, gTp, gsCons, gsNil, DL.gSub, setW, useW, useWs, useD, nosto, nostos, fz, fzs, dCall, dCall0, argsD, argD, dLst, dTup, dIte, dAnd, dOr, dNot, dNeg, dBm, isTy, mApp, sIx, kItem, rowOf, dSl, kSl, dNo, dSo, kInt, kStr, kRepr, kListOf, kIsi, tyN, dFor, dRow, dRng1, dRng2, dComp, wipeE, dYes, dJoin, dJs, dFmt, kFmt, pkS, kI2, kAbs, okq, eqv, okqs, eqvs, kCat, dsOf_map, nostos_d, fzs_d, List.getElem?_cons_zero, List.getElem?_cons_succ, List.set_cons_zero, List.set_cons_succ, List.length_cons, List.length_nil, Option.bind_some, Option.map_some, if_true, if_false, Bool.false_eq_true, decide_eq_true_eq, true_and, List.length_map, retE]
    exact ⟨_, rfl, hk _ (by omega) (by omega)⟩
  rename_i h1
  simp only [t__law_between_0_1, dSeq, dNext, dIf, dOrT, dAndT, dNotT, dBl, kBl, dTru, kTru, DL.truD, dOp, dCl, s1, s2, dCons, dNil, dVar, dMov, dC, kLenN, peek, lenW, noDict, lenD, sCmp, sOrd, sEq, kEq, sIn, sIsN, nonW, sInt, sAdd, sMul, sRows, rowD, flat, dsOf, seqW, dRet, dRetN, dDrop, dBrk, dCnt, dAsg, gN, gTp, gsCons, gsNil, DL.gSub, setW, useW, useWs, useD, nosto, nostos, fz, fzs, dCall, dCall0, argsD, argD, dLst, dTup, dIte, dAnd, dOr, dNot, dNeg, dBm, isTy, mApp, sIx, kItem, rowOf, dSl, kSl, dNo, dSo, kInt, kStr, kRepr, kListOf, kIsi, tyN, dFor, dRow, dRng1, dRng2, dComp, wipeE, dYes, dJoin, dJs, dFmt, kFmt, pkS, kI2, kAbs, okq, eqv, okqs, eqvs, kCat, dsOf_map, nostos_d, fzs_d, List.getElem?_cons_zero, List.getElem?_cons_succ, List.set_cons_zero, List.set_cons_succ, List.length_cons, List.length_nil, Option.bind_some, Option.map_some, if_true, if_false, Bool.false_eq_true, decide_eq_true_eq, true_and, List.length_map, S__law_take, S_take]
  refine ⟨6, rfl, by decide, by decide, fun i i0 i1 => ?_⟩
  simp only [dSeq, dNext, dIf, dOrT, dAndT, dNotT, dBl, kBl, dTru, kTru, DL.truD, dOp, dCl, s1, s2, dCons, dNil, dVar, dMov, dC, kLenN, peek, lenW, noDict, lenD, sCmp, sOrd, sEq, kEq, sIn, sIsN, nonW, sInt, sAdd, sMul, sRows, rowD, flat, dsOf, seqW, dRet, dRetN, dDrop, dBrk, dCnt, dAsg, gN, gTp, gsCons, gsNil, DL.gSub, setW, useW, useWs, useD, nosto, nostos, fz, fzs, dCall, dCall0, argsD, argD, dLst, dTup, dIte, dAnd, dOr, dNot, dNeg, dBm, isTy, mApp, sIx, kItem, rowOf, dSl, kSl, dNo, dSo, kInt, kStr, kRepr, kListOf, kIsi, tyN, dFor, dRow, dRng1, dRng2, dComp, wipeE, dYes, dJoin, dJs, dFmt, kFmt, pkS, kI2, kAbs, okq, eqv, okqs, eqvs, kCat, dsOf_map, nostos_d, fzs_d, List.getElem?_cons_zero, List.getElem?_cons_succ, List.set_cons_zero, List.set_cons_succ, List.length_cons, List.length_nil, Option.bind_some, Option.map_some, if_true, if_false, Bool.false_eq_true, decide_eq_true_eq, true_and, List.length_map, clear, flatL]
  refine ⟨by decide, ?_⟩
  simp only [t__law_between_0_2, dSeq, dNext, dIf, dOrT, dAndT, dNotT, dBl, kBl, dTru, kTru, DL.truD, dOp, dCl, s1, s2, dCons, dNil, dVar, dMov, dC, kLenN, peek, lenW, noDict, lenD, sCmp, sOrd, sEq, kEq, sIn, sIsN, nonW, sInt, sAdd, sMul, sRows, rowD, flat, dsOf, seqW, dRet, dRetN, dDrop, dBrk, dCnt, dAsg, gN, gTp, gsCons, gsNil, DL.gSub, setW, useW, useWs, useD, nosto, nostos, fz, fzs, dCall, dCall0, argsD, argD, dLst, dTup, dIte, dAnd, dOr, dNot, dNeg, dBm, isTy, mApp, sIx, kItem, rowOf, dSl, kSl, dNo, dSo, kInt, kStr, kRepr, kListOf, kIsi, tyN, dFor, dRow, dRng1, dRng2, dComp, wipeE, dYes, dJoin, dJs, dFmt, kFmt, pkS, kI2, kAbs, okq, eqv, okqs, eqvs, kCat, dsOf_map, nostos_d, fzs_d, List.getElem?_cons_zero, List.getElem?_cons_succ, List.set_cons_zero, List.set_cons_succ, List.length_cons, List.length_nil, Option.bind_some, Option.map_some, if_true, if_false, Bool.false_eq_true, decide_eq_true_eq, true_and, List.length_map, Bool.false_bne]
  split
  · simp only [t__law_between_3_0, dSeq, dNext, dIf, dOrT, dAndT, dNotT, dBl, kBl, dTru, kTru, DL.truD, dOp, dCl, s1, s2, dCons, dNil, dVar, dMov, dC, kLenN, peek, lenW, noDict, lenD, sCmp, sOrd, sEq, kEq, sIn, sIsN, nonW, sInt, sAdd, sMul, sRows, rowD, flat, dsOf, seqW, dRet, dRetN, dDrop, dBrk, dCnt, dAsg, gN, gTp, gsCons, gsNil, DL.gSub, setW, useW, useWs, useD, nosto, nostos, fz, fzs, dCall, dCall0, argsD, argD, dLst, dTup, dIte, dAnd, dOr, dNot, dNeg, dBm, isTy, mApp, sIx, kItem, rowOf, dSl, kSl, dNo, dSo, kInt, kStr, kRepr, kListOf, kIsi, tyN, dFor, dRow, dRng1, dRng2, dComp, wipeE, dYes, dJoin, dJs, dFmt, kFmt, pkS, kI2, kAbs, okq, eqv, okqs, eqvs, kCat, dsOf_map, nostos_d, fzs_d, List.getElem?_cons_zero, List.getElem?_cons_succ, List.set_cons_zero, List.set_cons_succ, List.length_cons, List.length_nil, Option.bind_some, Option.map_some, if_true, if_false, Bool.false_eq_true, decide_eq_true_eq, true_and, List.length_map, retE]
    exact ⟨_, rfl, hk _ (by omega) (by omega)⟩
  simp only [t__law_between_0_3, dSeq, dNext, dIf, dOrT, dAndT, dNotT, dBl, kBl, dTru, kTru, DL.truD, dOp, dCl, s1, s2, dCons, dNil, dVar, dMov, dC, kLenN, peek, lenW, noDict, lenD, sCmp, sOrd, sEq, kEq, sIn, sIsN, nonW, sInt, sAdd, sMul, sRows, rowD, flat, dsOf, seqW, dRet, dRetN, dDrop, dBrk, dCnt, dAsg, gN, gTp, gsCons, gsNil, DL.gSub, setW, useW, useWs, useD, nosto, nostos, fz, fzs, dCall, dCall0, argsD, argD, dLst, dTup, dIte, dAnd, dOr, dNot, dNeg, dBm, isTy, mApp, sIx, kItem, rowOf, dSl, kSl, dNo, dSo, kInt, kStr, kRepr, kListOf, kIsi, tyN, dFor, dRow, dRng1, dRng2, dComp, wipeE, dYes, dJoin, dJs, dFmt, kFmt, pkS, kI2, kAbs, okq, eqv, okqs, eqvs, kCat, dsOf_map, nostos_d, fzs_d, List.getElem?_cons_zero, List.getElem?_cons_succ, List.set_cons_zero, List.set_cons_succ, List.length_cons, List.length_nil, Option.bind_some, Option.map_some, if_true, if_false, Bool.false_eq_true, decide_eq_true_eq, true_and, List.length_map, Bool.false_bne]
  split
  · simp only [t__law_between_2_0, dSeq, dNext, dIf, dOrT, dAndT, dNotT, dBl, kBl, dTru, kTru, DL.truD, dOp, dCl, s1, s2, dCons, dNil, dVar, dMov, dC, kLenN, peek, lenW, noDict, lenD, sCmp, sOrd, sEq, kEq, sIn, sIsN, nonW, sInt, sAdd, sMul, sRows, rowD, flat, dsOf, seqW, dRet, dRetN, dDrop, dBrk, dCnt, dAsg, gN, gTp, gsCons, gsNil, DL.gSub, setW, useW, useWs, useD, nosto, nostos, fz, fzs, dCall, dCall0, argsD, argD, dLst, dTup, dIte, dAnd, dOr, dNot, dNeg, dBm, isTy, mApp, sIx, kItem, rowOf, dSl, kSl, dNo, dSo, kInt, kStr, kRepr, kListOf, kIsi, tyN, dFor, dRow, dRng1, dRng2, dComp, wipeE, dYes, dJoin, dJs, dFmt, kFmt, pkS, kI2, kAbs, okq, eqv, okqs, eqvs, kCat, dsOf_map, nostos_d, fzs_d, List.getElem?_cons_zero, List.getElem?_cons_succ, List.set_cons_zero, List.set_cons_succ, List.length_cons, List.length_nil, Option.bind_some, Option.map_some, if_true, if_false, Bool.false_eq_true, decide_eq_true_eq, true_and, List.length_map, retE]
    exact ⟨_, rfl, hk _ (by omega) (by omega)⟩
  simp only [t__law_between_0_4, dSeq, dNext, dIf, dOrT, dAndT, dNotT, dBl, kBl, dTru, kTru, DL.truD, dOp, dCl, s1, s2, dCons, dNil, dVar, dMov, dC, kLenN, peek, lenW, noDict, lenD, sCmp, sOrd, sEq, kEq, sIn, sIsN, nonW, sInt, sAdd, sMul, sRows, rowD, flat, dsOf, seqW, dRet, dRetN, dDrop, dBrk, dCnt, dAsg, gN, gTp, gsCons, gsNil, DL.gSub, setW, useW, useWs, useD, nosto, nostos, fz, fzs, dCall, dCall0, argsD, argD, dLst, dTup, dIte, dAnd, dOr, dNot, dNeg, dBm, isTy, mApp, sIx, kItem, rowOf, dSl, kSl, dNo, dSo, kInt, kStr, kRepr, kListOf, kIsi, tyN, dFor, dRow, dRng1, dRng2, dComp, wipeE, dYes, dJoin, dJs, dFmt, kFmt, pkS, kI2, kAbs, okq, eqv, okqs, eqvs, kCat, dsOf_map, nostos_d, fzs_d, List.getElem?_cons_zero, List.getElem?_cons_succ, List.set_cons_zero, List.set_cons_succ, List.length_cons, List.length_nil, Option.bind_some, Option.map_some, if_true, if_false, Bool.false_eq_true, decide_eq_true_eq, true_and, List.length_map, Bool.false_bne]
  split
  · simp only [t__law_between_1_0, dSeq, dNext, dIf, dOrT, dAndT, dNotT, dBl, kBl, dTru, kTru, DL.truD, dOp, dCl, s1, s2, dCons, dNil, dVar, dMov, dC, kLenN, peek, lenW, noDict, lenD, sCmp, sOrd, sEq, kEq, sIn, sIsN, nonW, sInt, sAdd, sMul, sRows, rowD, flat, dsOf, seqW, dRet, dRetN, dDrop, dBrk, dCnt, dAsg, gN, gTp, gsCons, gsNil, DL.gSub, setW, useW, useWs, useD, nosto, nostos, fz, fzs, dCall, dCall0, argsD, argD, dLst, dTup, dIte, dAnd, dOr, dNot, dNeg, dBm, isTy, mApp, sIx, kItem, rowOf, dSl, kSl, dNo, dSo, kInt, kStr, kRepr, kListOf, kIsi, tyN, dFor, dRow, dRng1, dRng2, dComp, wipeE, dYes, dJoin, dJs, dFmt, kFmt, pkS, kI2, kAbs, okq, eqv, okqs, eqvs, kCat, dsOf_map, nostos_d, fzs_d, List.getElem?_cons_zero, List.getElem?_cons_succ, List.set_cons_zero, List.set_cons_succ, List.length_cons, List.length_nil, Option.bind_some, Option.map_some, if_true, if_false, Bool.false_eq_true, decide_eq_true_eq, true_and, List.length_map, retE]
    exact ⟨_, rfl, hk _ (by omega) (by omega)⟩
  simp only [t__law_between_0_5, dSeq, dNext, dIf, dOrT, dAndT, dNotT, dBl, kBl, dTru, kTru, DL.truD, dOp, dCl, s1, s2, dCons, dNil, dVar, dMov, dC, kLenN, peek, lenW, noDict, lenD, sCmp, sOrd, sEq, kEq, sIn, sIsN, nonW, sInt, sAdd, sMul, sRows, rowD, flat, dsOf, seqW, dRet, dRetN, dDrop, dBrk, dCnt, dAsg, gN, gTp, gsCons, gsNil, DL.gSub, setW, useW, useWs, useD, nosto, nostos, fz, fzs, dCall, dCall0, argsD, argD, dLst, dTup, dIte, dAnd, dOr, dNot, dNeg, dBm, isTy, mApp, sIx, kItem, rowOf, dSl, kSl, dNo, dSo, kInt, kStr, kRepr, kListOf, kIsi, tyN, dFor, dRow, dRng1, dRng2, dComp, wipeE, dYes, dJoin, dJs, dFmt, kFmt, pkS, kI2, kAbs, okq, eqv, okqs, eqvs, kCat, dsOf_map, nostos_d, fzs_d, List.getElem?_cons_zero, List.getElem?_cons_succ, List.set_cons_zero, List.set_cons_succ, List.length_cons, List.length_nil, Option.bind_some, Option.map_some, if_true, if_false, Bool.false_eq_true, decide_eq_true_eq, true_and, List.length_map, S__law_take, S_take]
  refine ⟨_, rfl, by omega, by omega, fun j j0 j1 => ?_⟩
  simp only [dSeq, dNext, dIf, dOrT, dAndT, dNotT, dBl, kBl, dTru, kTru, DL.truD, dOp, dCl, s1, s2, dCons, dNil, dVar, dMov, dC, kLenN, peek, lenW, noDict, lenD, sCmp, sOrd, sEq, kEq, sIn, sIsN, nonW, sInt, sAdd, sMul, sRows, rowD, flat, dsOf, seqW, dRet, dRetN, dDrop, dBrk, dCnt, dAsg, gN, gTp, gsCons, gsNil, DL.gSub, setW, useW, useWs, useD, nosto, nostos, fz, fzs, dCall, dCall0, argsD, argD, dLst, dTup, dIte, dAnd, dOr, dNot, dNeg, dBm, isTy, mApp, sIx, kItem, rowOf, dSl, kSl, dNo, dSo, kInt, kStr, kRepr, kListOf, kIsi, tyN, dFor, dRow, dRng1, dRng2, dComp, wipeE, dYes, dJoin, dJs, dFmt, kFmt, pkS, kI2, kAbs, okq, eqv, okqs, eqvs, kCat, dsOf_map, nostos_d, fzs_d, List.getElem?_cons_zero, List.getElem?_cons_succ, List.set_cons_zero, List.set_cons_succ, List.length_cons, List.length_nil, Option.bind_some, Option.map_some, if_true, if_false, Bool.false_eq_true, decide_eq_true_eq, true_and, List.length_map, clear, flatL, retE]
  exact ⟨_, rfl, hk _ (by omega) (by omega)⟩
end Lk27

namespace Lk27
open PySem DL
theorem choose_map {α β : Type} {f : α → β} {P : α → Prop} : ∀ {ys : List β}, (∀ y ∈ ys, ∃ a, P a ∧ y = f a) → ∃ l : List α, ys = l.map f ∧ ∀ a ∈ l, P a
  | [], _ => ⟨[], rfl, fun _ m => nomatch m⟩
  | y :: ys, h => by
    obtain ⟨a, ha, rfl⟩ := h _ List.mem_cons_self
    obtain ⟨l, rfl, hl⟩ := choose_map fun y m => h y (List.mem_cons_of_mem _ m)
    exact ⟨a :: l, rfl, fun b m => (List.mem_cons.mp m).elim (fun e => e ▸ ha) (hl b)⟩
theorem joinL_one : ∀ l : List Nat, TL.joinL [] (l.map fun c => [c]) = l
  | [] => rfl
  | [c] => rfl
  | c :: d :: l => by
    have := joinL_one (d :: l)
    show [c] ++ ([] ++ TL.joinL [] ((d :: l).map fun c => [c])) = _
    rw [this]; rfl
theorem strsOf_map2 {α : Type} {f : α → List Nat} : ∀ {xs : List α}, strsOf (xs.map fun x => D.str (f x)) = some (xs.map f)
  | [] => rfl
  | x :: xs => by show (strsOf _).map (f x :: ·) = _; rw [strsOf_map2]; rfl
theorem sum_one : ∀ l : List Nat, ((l.map fun c => [c]).map List.length).sum = l.length
  | [] => rfl
  | c :: l => by
    have := sum_one l
    simp only [List.map_cons, List.sum_cons, List.length_cons, List.length_nil, this]; omega
theorem mJoin_chars {w : W} {env : DL.Env} {k : DK} {l : List Nat} (hw : (peek env w).bind flat = some (.l, l.map fun c => .str [c])) (hl : l.length ≤ 16777216) (hk : k (.d (.str l)) env) : mJoin (.d (.str [])) [w] env k := by
  have e : pkS (.d (.str [])) env = some [] := rfl
  unfold mJoin
  simp only [e]
  unfold rowD
  rw [hw]
  simp only [strsOf_map2]
  refine ⟨by rw [sum_one]; simpa using hl, ?_⟩
  rw [show Txt.join (toS []) ((l.map fun c => [c]).map toS) = SX.S (TL.joinL [] (l.map fun c => [c])) from SX.join_S [] _, joinL_one]
  exact hk
theorem p__law_char : ∀ ws k kx, ws.length = 1 → S__law_char ws k kx → t__law_char (retE k) (fun x _ => kx x) (startE N__law_char ws) := by
  rintro ws k kx - ⟨rfl, hk⟩
  rw [se__law_char]
  simp only [t__law_char, t__law_char_0_0, dSeq, dNext, dIf, dOrT, dAndT, dNotT, dBl, kBl, dTru, kTru, DL.truD, dOp, dCl, s1, s2, dCons, dNil, dVar, dMov, dC, kLenN, peek, lenW, noDict, lenD, sCmp, sOrd, sEq, kEq, sIn, sIsN, nonW, sInt, sAdd, sMul, sRows, rowD, flat, dsOf, seqW, dRet, dRetN, dDrop, dBrk, dCnt, dAsg, gN, gTp, gsCons, gsNil, DL.gSub, setW, useW, useWs, useD, nosto, nostos, fz, fzs, dCall, dCall0, argsD, argD, dLst, dTup, dIte, dAnd, dOr, dNot, dNeg, dBm, isTy, mApp, sIx, kItem, rowOf, dSl, kSl, dNo, dSo, kInt, kStr, kRepr, kListOf, kIsi, tyN, dFor, dRow, dRng1, dRng2, dComp, wipeE, dYes, dJoin, dJs, dFmt, kFmt, pkS, kI2, kAbs, okq, eqv, okqs, eqvs, kCat, dsOf_map, nostos_d, fzs_d, List.getElem?_cons_zero, List.getElem?_cons_succ, List.set_cons_zero, List.set_cons_succ, List.length_cons, List.length_nil, Option.bind_some, Option.map_some, if_true, if_false, Bool.false_eq_true, decide_eq_true_eq, true_and, List.length_map]
  refine ⟨by decide, ?_⟩
  simp only [t__law_char_0_1, dSeq, dNext, dIf, dOrT, dAndT, dNotT, dBl, kBl, dTru, kTru, DL.truD, dOp, dCl, s1, s2, dCons, dNil, dVar, dMov, dC, kLenN, peek, lenW, noDict, lenD, sCmp, sOrd, sEq, kEq, sIn, sIsN, nonW, sInt, sAdd, sMul, sRows, rowD, flat, dsOf, seqW, dRet, dRetN, dDrop, dBrk, dCnt, dAsg, gN, gTp, gsCons, gsNil, DL.gSub, setW, useW, useWs, useD, nosto, nostos, fz, fzs, dCall, dCall0, argsD, argD, dLst, dTup, dIte, dAnd, dOr, dNot, dNeg, dBm, isTy, mApp, sIx, kItem, rowOf, dSl, kSl, dNo, dSo, kInt, kStr, kRepr, kListOf, kIsi, tyN, dFor, dRow, dRng1, dRng2, dComp, wipeE, dYes, dJoin, dJs, dFmt, kFmt, pkS, kI2, kAbs, okq, eqv, okqs, eqvs, kCat, dsOf_map, nostos_d, fzs_d, List.getElem?_cons_zero, List.getElem?_cons_succ, List.set_cons_zero, List.set_cons_succ, List.length_cons, List.length_nil, Option.bind_some, Option.map_some, if_true, if_false, Bool.false_eq_true, decide_eq_true_eq, true_and, List.length_map]
  refine ⟨szl (by decide), by decide, ?_⟩
  have al : ∀ c ∈ ([32, 33, 34, 35, 36, 38, 39, 40, 41, 42, 43, 44, 45, 46, 47, 48, 49, 50, 51, 52, 53, 54, 55, 56, 57, 58, 59, 60, 61, 62, 63, 64, 65, 66, 67, 68, 69, 70, 71, 72, 73, 74, 75, 76, 77, 78, 79, 80, 81, 82, 83, 84, 85, 86, 87, 88, 89, 90, 91, 92, 93, 94, 95, 96] ++ [97, 98, 99, 100, 101, 102, 103, 104, 105, 106, 107, 108, 109, 110, 111, 112, 113, 114, 115, 116, 117, 118, 119, 120, 121, 122, 123, 124, 125, 126] : List Nat), c < 128 := by decide
  have ln : ([32, 33, 34, 35, 36, 38, 39, 40, 41, 42, 43, 44, 45, 46, 47, 48, 49, 50, 51, 52, 53, 54, 55, 56, 57, 58, 59, 60, 61, 62, 63, 64, 65, 66, 67, 68, 69, 70, 71, 72, 73, 74, 75, 76, 77, 78, 79, 80, 81, 82, 83, 84, 85, 86, 87, 88, 89, 90, 91, 92, 93, 94, 95, 96] ++ [97, 98, 99, 100, 101, 102, 103, 104, 105, 106, 107, 108, 109, 110, 111, 112, 113, 114, 115, 116, 117, 118, 119, 120, 121, 122, 123, 124, 125, 126] : List Nat).length = 94 := by decide
  generalize ([32, 33, 34, 35, 36, 38, 39, 40, 41, 42, 43, 44, 45, 46, 47, 48, 49, 50, 51, 52, 53, 54, 55, 56, 57, 58, 59, 60, 61, 62, 63, 64, 65, 66, 67, 68, 69, 70, 71, 72, 73, 74, 75, 76, 77, 78, 79, 80, 81, 82, 83, 84, 85, 86, 87, 88, 89, 90, 91, 92, 93, 94, 95, 96] ++ [97, 98, 99, 100, 101, 102, 103, 104, 105, 106, 107, 108, 109, 110, 111, 112, 113, 114, 115, 116, 117, 118, 119, 120, 121, 122, 123, 124, 125, 126] : List Nat) = s at al ln ⊢
  simp only [t__law_char_0_2, dSeq, dNext, dIf, dOrT, dAndT, dNotT, dBl, kBl, dTru, kTru, DL.truD, dOp, dCl, s1, s2, dCons, dNil, dVar, dMov, dC, kLenN, peek, lenW, noDict, lenD, sCmp, sOrd, sEq, kEq, sIn, sIsN, nonW, sInt, sAdd, sMul, sRows, rowD, flat, dsOf, seqW, dRet, dRetN, dDrop, dBrk, dCnt, dAsg, gN, gTp, gsCons, gsNil, DL.gSub, setW, useW, useWs, useD, nosto, nostos, fz, fzs, dCall, dCall0, argsD, argD, dLst, dTup, dIte, dAnd, dOr, dNot, dNeg, dBm, isTy, mApp, sIx, kItem, rowOf, dSl, kSl, dNo, dSo, kInt, kStr, kRepr, kListOf, kIsi, tyN, dFor, dRow, dRng1, dRng2, dComp, wipeE, dYes, dJoin, dJs, dFmt, kFmt, pkS, kI2, kAbs, okq, eqv, okqs, eqvs, kCat, dsOf_map, nostos_d, fzs_d, List.getElem?_cons_zero, List.getElem?_cons_succ, List.set_cons_zero, List.set_cons_succ, List.length_cons, List.length_nil, Option.bind_some, Option.map_some, if_true, if_false, Bool.false_eq_true, decide_eq_true_eq, true_and, List.length_map, S__law_take, S_take]
  refine ⟨szl (by omega), _, rfl, by omega, by omega, fun i i0 i1 => ?_⟩
  obtain ⟨j, rfl⟩ : ∃ j : Nat, i = j := ⟨i.toNat, by omega⟩
  have hj : j < s.length := by omega
  have ea : L2.atI s (j : Int) = some s[j] := L2.atI_nat (List.getElem?_eq_getElem hj)
  simp only [dSeq, dNext, dIf, dOrT, dAndT, dNotT, dBl, kBl, dTru, kTru, DL.truD, dOp, dCl, s1, s2, dCons, dNil, dVar, dMov, dC, kLenN, peek, lenW, noDict, lenD, sCmp, sOrd, sEq, kEq, sIn, sIsN, nonW, sInt, sAdd, sMul, sRows, rowD, flat, dsOf, seqW, dRet, dRetN, dDrop, dBrk, dCnt, dAsg, gN, gTp, gsCons, gsNil, DL.gSub, setW, useW, useWs, useD, nosto, nostos, fz, fzs, dCall, dCall0, argsD, argD, dLst, dTup, dIte, dAnd, dOr, dNot, dNeg, dBm, isTy, mApp, sIx, kItem, rowOf, dSl, kSl, dNo, dSo, kInt, kStr, kRepr, kListOf, kIsi, tyN, dFor, dRow, dRng1, dRng2, dComp, wipeE, dYes, dJoin, dJs, dFmt, kFmt, pkS, kI2, kAbs, okq, eqv, okqs, eqvs, kCat, dsOf_map, nostos_d, fzs_d, List.getElem?_cons_zero, List.getElem?_cons_succ, List.set_cons_zero, List.set_cons_succ, List.length_cons, List.length_nil, Option.bind_some, Option.map_some, if_true, if_false, Bool.false_eq_true, decide_eq_true_eq, true_and, List.length_map, clear, flatL, ea, retE]
  exact ⟨szl (by omega), _, rfl, hk _ (al _ (List.getElem_mem hj))⟩
theorem p__law_text : ∀ ws k kx, ws.length = 2 → S__law_text ws k kx → t__law_text (retE k) (fun x _ => kx x) (startE N__law_text ws) := by
  rintro ws k kx - ⟨m, rfl, hm, hk⟩
  rw [se__law_text]
  simp only [t__law_text, t__law_text_0_0, dSeq, dNext, dIf, dOrT, dAndT, dNotT, dBl, kBl, dTru, kTru, DL.truD, dOp, dCl, s1, s2, dCons, dNil, dVar, dMov, dC, kLenN, peek, lenW, noDict, lenD, sCmp, sOrd, sEq, kEq, sIn, sIsN, nonW, sInt, sAdd, sMul, sRows, rowD, flat, dsOf, seqW, dRet, dRetN, dDrop, dBrk, dCnt, dAsg, gN, gTp, gsCons, gsNil, DL.gSub, setW, useW, useWs, useD, nosto, nostos, fz, fzs, dCall, dCall0, argsD, argD, dLst, dTup, dIte, dAnd, dOr, dNot, dNeg, dBm, isTy, mApp, sIx, kItem, rowOf, dSl, kSl, dNo, dSo, kInt, kStr, kRepr, kListOf, kIsi, tyN, dFor, dRow, dRng1, dRng2, dComp, wipeE, dYes, dJoin, dJs, dFmt, kFmt, pkS, kI2, kAbs, okq, eqv, okqs, eqvs, kCat, dsOf_map, nostos_d, fzs_d, List.getElem?_cons_zero, List.getElem?_cons_succ, List.set_cons_zero, List.set_cons_succ, List.length_cons, List.length_nil, Option.bind_some, Option.map_some, if_true, if_false, Bool.false_eq_true, decide_eq_true_eq, true_and, List.length_map, S__law_between]
  refine ⟨0, m, rfl, by omega, by omega, fun i i0 i1 => ?_⟩
  simp only [dSeq, dNext, dIf, dOrT, dAndT, dNotT, dBl, kBl, dTru, kTru, DL.truD, dOp, dCl, s1, s2, dCons, dNil, dVar, dMov, dC, kLenN, peek, lenW, noDict, lenD, sCmp, sOrd, sEq, kEq, sIn, sIsN, nonW, sInt, sAdd, sMul, sRows, rowD, flat, dsOf, seqW, dRet, dRetN, dDrop, dBrk, dCnt, dAsg, gN, gTp, gsCons, gsNil, DL.gSub, setW, useW, useWs, useD, nosto, nostos, fz, fzs, dCall, dCall0, argsD, argD, dLst, dTup, dIte, dAnd, dOr, dNot, dNeg, dBm, isTy, mApp, sIx, kItem, rowOf, dSl, kSl, dNo, dSo, kInt, kStr, kRepr, kListOf, kIsi, tyN, dFor, dRow, dRng1, dRng2, dComp, wipeE, dYes, dJoin, dJs, dFmt, kFmt, pkS, kI2, kAbs, okq, eqv, okqs, eqvs, kCat, dsOf_map, nostos_d, fzs_d, List.getElem?_cons_zero, List.getElem?_cons_succ, List.set_cons_zero, List.set_cons_succ, List.length_cons, List.length_nil, Option.bind_some, Option.map_some, if_true, if_false, Bool.false_eq_true, decide_eq_true_eq, true_and, List.length_map, clear, flatL]
  refine ⟨⟨by omega, by omega⟩, ?_⟩
  refine compL_any (fun y => ∃ c, c < 128 ∧ y = .d (.str [c])) (fun w hw acc K hK ha => ?_) (by rw [rangeW_len]; exact szl (by simp; omega)) (fun ys ly hy => ?_)
  · simp only [compStep, dSeq, dNext, dIf, dOrT, dAndT, dNotT, dBl, kBl, dTru, kTru, DL.truD, dOp, dCl, s1, s2, dCons, dNil, dVar, dMov, dC, kLenN, peek, lenW, noDict, lenD, sCmp, sOrd, sEq, kEq, sIn, sIsN, nonW, sInt, sAdd, sMul, sRows, rowD, flat, dsOf, seqW, dRet, dRetN, dDrop, dBrk, dCnt, dAsg, gN, gTp, gsCons, gsNil, DL.gSub, setW, useW, useWs, useD, nosto, nostos, fz, fzs, dCall, dCall0, argsD, argD, dLst, dTup, dIte, dAnd, dOr, dNot, dNeg, dBm, isTy, mApp, sIx, kItem, rowOf, dSl, kSl, dNo, dSo, kInt, kStr, kRepr, kListOf, kIsi, tyN, dFor, dRow, dRng1, dRng2, dComp, wipeE, dYes, dJoin, dJs, dFmt, kFmt, pkS, kI2, kAbs, okq, eqv, okqs, eqvs, kCat, dsOf_map, nostos_d, fzs_d, List.getElem?_cons_zero, List.getElem?_cons_succ, List.set_cons_zero, List.set_cons_succ, List.length_cons, List.length_nil, Option.bind_some, Option.map_some, if_true, if_false, Bool.false_eq_true, decide_eq_true_eq, true_and, List.length_map, S__law_char]
    refine ⟨by decide, fun c hc => ?_⟩
    simp only [dSeq, dNext, dIf, dOrT, dAndT, dNotT, dBl, kBl, dTru, kTru, DL.truD, dOp, dCl, s1, s2, dCons, dNil, dVar, dMov, dC, kLenN, peek, lenW, noDict, lenD, sCmp, sOrd, sEq, kEq, sIn, sIsN, nonW, sInt, sAdd, sMul, sRows, rowD, flat, dsOf, seqW, dRet, dRetN, dDrop, dBrk, dCnt, dAsg, gN, gTp, gsCons, gsNil, DL.gSub, setW, useW, useWs, useD, nosto, nostos, fz, fzs, dCall, dCall0, argsD, argD, dLst, dTup, dIte, dAnd, dOr, dNot, dNeg, dBm, isTy, mApp, sIx, kItem, rowOf, dSl, kSl, dNo, dSo, kInt, kStr, kRepr, kListOf, kIsi, tyN, dFor, dRow, dRng1, dRng2, dComp, wipeE, dYes, dJoin, dJs, dFmt, kFmt, pkS, kI2, kAbs, okq, eqv, okqs, eqvs, kCat, dsOf_map, nostos_d, fzs_d, List.getElem?_cons_zero, List.getElem?_cons_succ, List.set_cons_zero, List.set_cons_succ, List.length_cons, List.length_nil, Option.bind_some, Option.map_some, if_true, if_false, Bool.false_eq_true, decide_eq_true_eq, true_and, List.length_map, clear, flatL]
    exact ⟨ha, hK _ ⟨c, hc, rfl⟩⟩
  · obtain ⟨l, rfl, hl⟩ := choose_map hy
    rw [List.length_map, rangeW_len] at ly
    rw [List.nil_append]
    refine mJoin_chars (l := l) ?_ (by omega) ?_
    · exact flat_map (f := fun c => D.str [c])
    · simp only [dSeq, dNext, dIf, dOrT, dAndT, dNotT, dBl, kBl, dTru, kTru, DL.truD, dOp, dCl, s1, s2, dCons, dNil, dVar, dMov, dC, kLenN, peek, lenW, noDict, lenD, sCmp, sOrd, sEq, kEq, sIn, sIsN, nonW, sInt, sAdd, sMul, sRows, rowD, flat, dsOf, seqW, dRet, dRetN, dDrop, dBrk, dCnt, dAsg, gN, gTp, gsCons, gsNil, DL.gSub, setW, useW, useWs, useD, nosto, nostos, fz, fzs, dCall, dCall0, argsD, argD, dLst, dTup, dIte, dAnd, dOr, dNot, dNeg, dBm, isTy, mApp, sIx, kItem, rowOf, dSl, kSl, dNo, dSo, kInt, kStr, kRepr, kListOf, kIsi, tyN, dFor, dRow, dRng1, dRng2, dComp, wipeE, dYes, dJoin, dJs, dFmt, kFmt, pkS, kI2, kAbs, okq, eqv, okqs, eqvs, kCat, dsOf_map, nostos_d, fzs_d, List.getElem?_cons_zero, List.getElem?_cons_succ, List.set_cons_zero, List.set_cons_succ, List.length_cons, List.length_nil, Option.bind_some, Option.map_some, if_true, if_false, Bool.false_eq_true, decide_eq_true_eq, true_and, List.length_map, retE]
      exact ⟨_, rfl, hk l ⟨by omega, hl⟩⟩
end Lk27

namespace Lk27
open PySem DL
def cntW (j n : Nat) : List W := (List.range' j n).map fun i : Nat => W.d (.int (i : Int))
theorem rangeW0 (n : Nat) : rangeW 0 n = cntW 0 n := by
  unfold rangeW cntW
  rw [List.range_eq_range']
  refine List.map_congr_left fun i _ => ?_
  rw [Int.zero_add]
theorem cntW_succ (j n : Nat) : cntW j (n + 1) = W.d (.int (j : Int)) :: cntW (j + 1) n := by
  unfold cntW; rw [List.range'_succ]; rfl
theorem mem_cut {s : List Nat} {lo hi : Option Int} {c : Nat} (h : c ∈ cutL s lo hi) : c ∈ s := by
  unfold cutL at h
  exact List.mem_of_mem_drop (List.mem_of_mem_take h)
theorem len_cut (s : List Nat) (lo hi : Option Int) : (cutL s lo hi).length ≤ s.length := by
  unfold cutL; rw [List.length_take, List.length_drop]; omega
theorem at_in {s : List Nat} {i : Int} (h0 : 0 ≤ i) (h1 : i < s.length) : ∃ c, L2.atI s i = some c ∧ c ∈ s := by
  obtain ⟨j, rfl⟩ : ∃ j : Nat, i = j := ⟨i.toNat, by omega⟩
  have hj : j < s.length := by omega
  exact ⟨s[j], L2.atI_nat (List.getElem?_eq_getElem hj), List.getElem_mem hj⟩
theorem okS_app {a b : List Nat} {n m : Nat} (h1 : okS a n) (h2 : okS b m) : okS (a ++ b) (n + m) := ⟨by rw [List.length_append]; have := h1.1; have := h2.1; omega, fun c m => (List.mem_append.mp m).elim (h1.2 c) (h2.2 c)⟩
theorem okS_le {a : List Nat} {n m : Nat} (h1 : okS a n) (h : n ≤ m) : okS a m := ⟨Nat.le_trans h1.1 h, h1.2⟩
theorem okS_cut {a : List Nat} {n : Nat} (lo hi : Option Int) (h1 : okS a n) : okS (cutL a lo hi) n := ⟨Nat.le_trans (len_cut a lo hi) h1.1, fun c m => h1.2 c (mem_cut m)⟩
theorem okS_one {c : Nat} (h : c < 128) : okS [c] 1 := ⟨Nat.le_refl _, fun d m => by rw [List.mem_singleton.mp m]; exact h⟩
theorem p__law_name : ∀ ws k kx, ws.length = 1 → S__law_name ws k kx → t__law_name (retE k) (fun x _ => kx x) (startE N__law_name ws) := by
  rintro ws k kx - ⟨rfl, hk⟩
  rw [se__law_name]
  simp only [t__law_name, t__law_name_0_0, dSeq, dNext, dIf, dOrT, dAndT, dNotT, dBl, kBl, dTru, kTru, DL.truD, dOp, dCl, s1, s2, dCons, dNil, dVar, dMov, dC, kLenN, peek, lenW, noDict, lenD, sCmp, sOrd, sEq, kEq, sIn, sIsN, nonW, sInt, sAdd, sMul, sRows, rowD, flat, dsOf, seqW, dRet, dRetN, dDrop, dBrk, dCnt, dAsg, gN, gTp, gsCons, gsNil, DL.gSub, setW, useW, useWs, useD, nosto, nostos, fz, fzs, dCall, dCall0, argsD, argD, dLst, dTup, dIte, dAnd, dOr, dNot, dNeg, dBm, isTy, mApp, sIx, kItem, rowOf, dSl, kSl, dNo, dSo, kInt, kStr, kRepr, kListOf, kIsi, tyN, dFor, dRow, dRng1, dRng2, dComp, wipeE, dYes, dJoin, dJs, dFmt, kFmt, pkS, kI2, kAbs, okq, eqv, okqs, eqvs, kCat, dsOf_map, nostos_d, fzs_d, List.getElem?_cons_zero, List.getElem?_cons_succ, List.set_cons_zero, List.set_cons_succ, List.length_cons, List.length_nil, Option.bind_some, Option.map_some, if_true, if_false, Bool.false_eq_true, decide_eq_true_eq, true_and, List.length_map]
  refine ⟨by decide, ?_⟩
  have al : ∀ c ∈ ([97, 98, 99, 100, 101, 102, 103, 104, 105, 106, 107, 108, 109, 110, 111, 112, 113, 114, 115, 116, 117, 118, 119, 120, 121, 122] : List Nat), c < 128 := by decide
  have ln : ([97, 98, 99, 100, 101, 102, 103, 104, 105, 106, 107, 108, 109, 110, 111, 112, 113, 114, 115, 116, 117, 118, 119, 120, 121, 122] : List Nat).length = 26 := by decide
  generalize ([97, 98, 99, 100, 101, 102, 103, 104, 105, 106, 107, 108, 109, 110, 111, 112, 113, 114, 115, 116, 117, 118, 119, 120, 121, 122] : List Nat) = sm at al ln ⊢
  simp only [t__law_name_0_1, dSeq, dNext, dIf, dOrT, dAndT, dNotT, dBl, kBl, dTru, kTru, DL.truD, dOp, dCl, s1, s2, dCons, dNil, dVar, dMov, dC, kLenN, peek, lenW, noDict, lenD, sCmp, sOrd, sEq, kEq, sIn, sIsN, nonW, sInt, sAdd, sMul, sRows, rowD, flat, dsOf, seqW, dRet, dRetN, dDrop, dBrk, dCnt, dAsg, gN, gTp, gsCons, gsNil, DL.gSub, setW, useW, useWs, useD, nosto, nostos, fz, fzs, dCall, dCall0, argsD, argD, dLst, dTup, dIte, dAnd, dOr, dNot, dNeg, dBm, isTy, mApp, sIx, kItem, rowOf, dSl, kSl, dNo, dSo, kInt, kStr, kRepr, kListOf, kIsi, tyN, dFor, dRow, dRng1, dRng2, dComp, wipeE, dYes, dJoin, dJs, dFmt, kFmt, pkS, kI2, kAbs, okq, eqv, okqs, eqvs, kCat, dsOf_map, nostos_d, fzs_d, List.getElem?_cons_zero, List.getElem?_cons_succ, List.set_cons_zero, List.set_cons_succ, List.length_cons, List.length_nil, Option.bind_some, Option.map_some, if_true, if_false, Bool.false_eq_true, decide_eq_true_eq, true_and, List.length_map]
  refine ⟨by decide, ?_⟩
  simp only [t__law_name_0_2, dSeq, dNext, dIf, dOrT, dAndT, dNotT, dBl, kBl, dTru, kTru, DL.truD, dOp, dCl, s1, s2, dCons, dNil, dVar, dMov, dC, kLenN, peek, lenW, noDict, lenD, sCmp, sOrd, sEq, kEq, sIn, sIsN, nonW, sInt, sAdd, sMul, sRows, rowD, flat, dsOf, seqW, dRet, dRetN, dDrop, dBrk, dCnt, dAsg, gN, gTp, gsCons, gsNil, DL.gSub, setW, useW, useWs, useD, nosto, nostos, fz, fzs, dCall, dCall0, argsD, argD, dLst, dTup, dIte, dAnd, dOr, dNot, dNeg, dBm, isTy, mApp, sIx, kItem, rowOf, dSl, kSl, dNo, dSo, kInt, kStr, kRepr, kListOf, kIsi, tyN, dFor, dRow, dRng1, dRng2, dComp, wipeE, dYes, dJoin, dJs, dFmt, kFmt, pkS, kI2, kAbs, okq, eqv, okqs, eqvs, kCat, dsOf_map, nostos_d, fzs_d, List.getElem?_cons_zero, List.getElem?_cons_succ, List.set_cons_zero, List.set_cons_succ, List.length_cons, List.length_nil, Option.bind_some, Option.map_some, if_true, if_false, Bool.false_eq_true, decide_eq_true_eq, true_and, List.length_map, S__law_between]
  refine ⟨1, 8, rfl, by decide, by decide, fun i i0 i1 => ?_⟩
  simp only [dSeq, dNext, dIf, dOrT, dAndT, dNotT, dBl, kBl, dTru, kTru, DL.truD, dOp, dCl, s1, s2, dCons, dNil, dVar, dMov, dC, kLenN, peek, lenW, noDict, lenD, sCmp, sOrd, sEq, kEq, sIn, sIsN, nonW, sInt, sAdd, sMul, sRows, rowD, flat, dsOf, seqW, dRet, dRetN, dDrop, dBrk, dCnt, dAsg, gN, gTp, gsCons, gsNil, DL.gSub, setW, useW, useWs, useD, nosto, nostos, fz, fzs, dCall, dCall0, argsD, argD, dLst, dTup, dIte, dAnd, dOr, dNot, dNeg, dBm, isTy, mApp, sIx, kItem, rowOf, dSl, kSl, dNo, dSo, kInt, kStr, kRepr, kListOf, kIsi, tyN, dFor, dRow, dRng1, dRng2, dComp, wipeE, dYes, dJoin, dJs, dFmt, kFmt, pkS, kI2, kAbs, okq, eqv, okqs, eqvs, kCat, dsOf_map, nostos_d, fzs_d, List.getElem?_cons_zero, List.getElem?_cons_succ, List.set_cons_zero, List.set_cons_succ, List.length_cons, List.length_nil, Option.bind_some, Option.map_some, if_true, if_false, Bool.false_eq_true, decide_eq_true_eq, true_and, List.length_map, clear, flatL]
  refine ⟨⟨by omega, by omega⟩, ?_⟩
  rw [rangeW0]
  refine forL_ind (fun r env => ∃ (j n : Nat) (w : List Nat) (o : Option W), r = cntW j n ∧ env = [some .sto, some (.d (.str sm)), some (.d (.str w)), o] ∧ w.length = j ∧ 1 ≤ j + n ∧ j + n ≤ 8 ∧ ∀ c ∈ w, c < 128) (fun w r env K h hK => ?_) ⟨0, i.toNat, [], none, rfl, rfl, rfl, by omega, by omega, fun c m => (by simp at m)⟩ (fun e h => ?_)
  · obtain ⟨j, n, w, o, er, rfl, lw, n1, n2, hc⟩ := h
    cases n with
    | zero => cases er
    | succ n =>
      rw [cntW_succ] at er
      cases er
      have next : ∀ c o, c < 128 → K [some .sto, some (.d (.str sm)), some (.d (.str (w ++ [c]))), o] := fun c o h => hK _ ⟨j + 1, n, w ++ [c], o, rfl, rfl, by rw [List.length_append, lw]; rfl, by omega, by omega, fun d m => (List.mem_append.mp m).elim (hc d) fun m => by rw [List.mem_singleton.mp m]; exact h⟩
      have B : t__law_name_4_0 { nx := K, rt := (retE k).rt, bk := fun e1 => t__law_name_0_3 (retE k) (fun x _ => kx x) e1, ct := K } (fun x _ => kx x) [some .sto, some (.d (.str sm)), some (.d (.str w)), some (.d (.int (j : Int)))] := by
        simp only [t__law_name_4_0, dSeq, dNext, dIf, dOrT, dAndT, dNotT, dBl, kBl, dTru, kTru, DL.truD, dOp, dCl, s1, s2, dCons, dNil, dVar, dMov, dC, kLenN, peek, lenW, noDict, lenD, sCmp, sOrd, sEq, kEq, sIn, sIsN, nonW, sInt, sAdd, sMul, sRows, rowD, flat, dsOf, seqW, dRet, dRetN, dDrop, dBrk, dCnt, dAsg, gN, gTp, gsCons, gsNil, DL.gSub, setW, useW, useWs, useD, nosto, nostos, fz, fzs, dCall, dCall0, argsD, argD, dLst, dTup, dIte, dAnd, dOr, dNot, dNeg, dBm, isTy, mApp, sIx, kItem, rowOf, dSl, kSl, dNo, dSo, kInt, kStr, kRepr, kListOf, kIsi, tyN, dFor, dRow, dRng1, dRng2, dComp, wipeE, dYes, dJoin, dJs, dFmt, kFmt, pkS, kI2, kAbs, okq, eqv, okqs, eqvs, kCat, dsOf_map, nostos_d, fzs_d, List.getElem?_cons_zero, List.getElem?_cons_succ, List.set_cons_zero, List.set_cons_succ, List.length_cons, List.length_nil, Option.bind_some, Option.map_some, if_true, if_false, Bool.false_eq_true, decide_eq_true_eq, true_and, List.length_map, S__law_take, S_take]
        refine ⟨26, rfl, by decide, by decide, fun i i0 i1 => ?_⟩
        obtain ⟨c, ec, mc⟩ := at_in (s := sm) i0 (by omega)
        simp only [dSeq, dNext, dIf, dOrT, dAndT, dNotT, dBl, kBl, dTru, kTru, DL.truD, dOp, dCl, s1, s2, dCons, dNil, dVar, dMov, dC, kLenN, peek, lenW, noDict, lenD, sCmp, sOrd, sEq, kEq, sIn, sIsN, nonW, sInt, sAdd, sMul, sRows, rowD, flat, dsOf, seqW, dRet, dRetN, dDrop, dBrk, dCnt, dAsg, gN, gTp, gsCons, gsNil, DL.gSub, setW, useW, useWs, useD, nosto, nostos, fz, fzs, dCall, dCall0, argsD, argD, dLst, dTup, dIte, dAnd, dOr, dNot, dNeg, dBm, isTy, mApp, sIx, kItem, rowOf, dSl, kSl, dNo, dSo, kInt, kStr, kRepr, kListOf, kIsi, tyN, dFor, dRow, dRng1, dRng2, dComp, wipeE, dYes, dJoin, dJs, dFmt, kFmt, pkS, kI2, kAbs, okq, eqv, okqs, eqvs, kCat, dsOf_map, nostos_d, fzs_d, List.getElem?_cons_zero, List.getElem?_cons_succ, List.set_cons_zero, List.set_cons_succ, List.length_cons, List.length_nil, Option.bind_some, Option.map_some, if_true, if_false, Bool.false_eq_true, decide_eq_true_eq, true_and, List.length_map, clear, flatL, ec]
        exact ⟨szl (by omega), szl (by simp; omega), by decide, next c _ (al c mc)⟩
      simp only [t__law_name_2_0, dSeq, dNext, dIf, dOrT, dAndT, dNotT, dBl, kBl, dTru, kTru, DL.truD, dOp, dCl, s1, s2, dCons, dNil, dVar, dMov, dC, kLenN, peek, lenW, noDict, lenD, sCmp, sOrd, sEq, kEq, sIn, sIsN, nonW, sInt, sAdd, sMul, sRows, rowD, flat, dsOf, seqW, dRet, dRetN, dDrop, dBrk, dCnt, dAsg, gN, gTp, gsCons, gsNil, DL.gSub, setW, useW, useWs, useD, nosto, nostos, fz, fzs, dCall, dCall0, argsD, argD, dLst, dTup, dIte, dAnd, dOr, dNot, dNeg, dBm, isTy, mApp, sIx, kItem, rowOf, dSl, kSl, dNo, dSo, kInt, kStr, kRepr, kListOf, kIsi, tyN, dFor, dRow, dRng1, dRng2, dComp, wipeE, dYes, dJoin, dJs, dFmt, kFmt, pkS, kI2, kAbs, okq, eqv, okqs, eqvs, kCat, dsOf_map, nostos_d, fzs_d, List.getElem?_cons_zero, List.getElem?_cons_succ, List.set_cons_zero, List.set_cons_succ, List.length_cons, List.length_nil, Option.bind_some, Option.map_some, if_true, if_false, Bool.false_eq_true, decide_eq_true_eq, true_and, List.length_map, Bool.false_bne]
      refine ⟨by decide, ?_⟩
      split
      · rename_i h1
        simp only [S__law_take, S_take]
        refine ⟨2, rfl, by decide, by decide, fun i i0 i1 => ?_⟩
        simp only [dSeq, dNext, dIf, dOrT, dAndT, dNotT, dBl, kBl, dTru, kTru, DL.truD, dOp, dCl, s1, s2, dCons, dNil, dVar, dMov, dC, kLenN, peek, lenW, noDict, lenD, sCmp, sOrd, sEq, kEq, sIn, sIsN, nonW, sInt, sAdd, sMul, sRows, rowD, flat, dsOf, seqW, dRet, dRetN, dDrop, dBrk, dCnt, dAsg, gN, gTp, gsCons, gsNil, DL.gSub, setW, useW, useWs, useD, nosto, nostos, fz, fzs, dCall, dCall0, argsD, argD, dLst, dTup, dIte, dAnd, dOr, dNot, dNeg, dBm, isTy, mApp, sIx, kItem, rowOf, dSl, kSl, dNo, dSo, kInt, kStr, kRepr, kListOf, kIsi, tyN, dFor, dRow, dRng1, dRng2, dComp, wipeE, dYes, dJoin, dJs, dFmt, kFmt, pkS, kI2, kAbs, okq, eqv, okqs, eqvs, kCat, dsOf_map, nostos_d, fzs_d, List.getElem?_cons_zero, List.getElem?_cons_succ, List.set_cons_zero, List.set_cons_succ, List.length_cons, List.length_nil, Option.bind_some, Option.map_some, if_true, if_false, Bool.false_eq_true, decide_eq_true_eq, true_and, List.length_map, clear, flatL]
        refine ite_i (fun hi => ?_) (fun hi => ?_)
        · obtain ⟨c, ec, mc⟩ := at_in (s := w) (i := 0) (by decide) (by omega)
          simp only [t__law_name_3_0, dSeq, dNext, dIf, dOrT, dAndT, dNotT, dBl, kBl, dTru, kTru, DL.truD, dOp, dCl, s1, s2, dCons, dNil, dVar, dMov, dC, kLenN, peek, lenW, noDict, lenD, sCmp, sOrd, sEq, kEq, sIn, sIsN, nonW, sInt, sAdd, sMul, sRows, rowD, flat, dsOf, seqW, dRet, dRetN, dDrop, dBrk, dCnt, dAsg, gN, gTp, gsCons, gsNil, DL.gSub, setW, useW, useWs, useD, nosto, nostos, fz, fzs, dCall, dCall0, argsD, argD, dLst, dTup, dIte, dAnd, dOr, dNot, dNeg, dBm, isTy, mApp, sIx, kItem, rowOf, dSl, kSl, dNo, dSo, kInt, kStr, kRepr, kListOf, kIsi, tyN, dFor, dRow, dRng1, dRng2, dComp, wipeE, dYes, dJoin, dJs, dFmt, kFmt, pkS, kI2, kAbs, okq, eqv, okqs, eqvs, kCat, dsOf_map, nostos_d, fzs_d, List.getElem?_cons_zero, List.getElem?_cons_succ, List.set_cons_zero, List.set_cons_succ, List.length_cons, List.length_nil, Option.bind_some, Option.map_some, if_true, if_false, Bool.false_eq_true, decide_eq_true_eq, true_and, List.length_map, ec]
          exact ⟨szl (by omega), szl (by simp; omega), by decide, next c _ (hc c mc)⟩
        · exact B
      · exact B
  · obtain ⟨j, n, w, o, er, rfl, lw, n1, n2, hc⟩ := h
    cases n with
    | succ n => rw [cntW_succ] at er; cases er
    | zero =>
      have wn : w ≠ [] := fun e => by rw [e] at lw; simp at lw; omega
      simp only [t__law_name_0_3, dSeq, dNext, dIf, dOrT, dAndT, dNotT, dBl, kBl, dTru, kTru, DL.truD, dOp, dCl, s1, s2, dCons, dNil, dVar, dMov, dC, kLenN, peek, lenW, noDict, lenD, sCmp, sOrd, sEq, kEq, sIn, sIsN, nonW, sInt, sAdd, sMul, sRows, rowD, flat, dsOf, seqW, dRet, dRetN, dDrop, dBrk, dCnt, dAsg, gN, gTp, gsCons, gsNil, DL.gSub, setW, useW, useWs, useD, nosto, nostos, fz, fzs, dCall, dCall0, argsD, argD, dLst, dTup, dIte, dAnd, dOr, dNot, dNeg, dBm, isTy, mApp, sIx, kItem, rowOf, dSl, kSl, dNo, dSo, kInt, kStr, kRepr, kListOf, kIsi, tyN, dFor, dRow, dRng1, dRng2, dComp, wipeE, dYes, dJoin, dJs, dFmt, kFmt, pkS, kI2, kAbs, okq, eqv, okqs, eqvs, kCat, dsOf_map, nostos_d, fzs_d, List.getElem?_cons_zero, List.getElem?_cons_succ, List.set_cons_zero, List.set_cons_succ, List.length_cons, List.length_nil, Option.bind_some, Option.map_some, if_true, if_false, Bool.false_eq_true, decide_eq_true_eq, true_and, List.length_map, Bool.false_bne]
      refine ⟨szl (by omega), ?_⟩
      split
      · simp only [t__law_name_1_0, dSeq, dNext, dIf, dOrT, dAndT, dNotT, dBl, kBl, dTru, kTru, DL.truD, dOp, dCl, s1, s2, dCons, dNil, dVar, dMov, dC, kLenN, peek, lenW, noDict, lenD, sCmp, sOrd, sEq, kEq, sIn, sIsN, nonW, sInt, sAdd, sMul, sRows, rowD, flat, dsOf, seqW, dRet, dRetN, dDrop, dBrk, dCnt, dAsg, gN, gTp, gsCons, gsNil, DL.gSub, setW, useW, useWs, useD, nosto, nostos, fz, fzs, dCall, dCall0, argsD, argD, dLst, dTup, dIte, dAnd, dOr, dNot, dNeg, dBm, isTy, mApp, sIx, kItem, rowOf, dSl, kSl, dNo, dSo, kInt, kStr, kRepr, kListOf, kIsi, tyN, dFor, dRow, dRng1, dRng2, dComp, wipeE, dYes, dJoin, dJs, dFmt, kFmt, pkS, kI2, kAbs, okq, eqv, okqs, eqvs, kCat, dsOf_map, nostos_d, fzs_d, List.getElem?_cons_zero, List.getElem?_cons_succ, List.set_cons_zero, List.set_cons_succ, List.length_cons, List.length_nil, Option.bind_some, Option.map_some, if_true, if_false, Bool.false_eq_true, decide_eq_true_eq, true_and, List.length_map]
        have hz := okS_app (a := [97]) (okS_one (by decide)) (okS_cut (a := w) (n := 8) (some 1) none ⟨by omega, hc⟩)
        have := hz.1
        refine ⟨szl (by omega), szl (by rw [List.length_append] at this; simp at this ⊢; omega), by decide, ?_⟩
        simp only [t__law_name_0_4, dSeq, dNext, dIf, dOrT, dAndT, dNotT, dBl, kBl, dTru, kTru, DL.truD, dOp, dCl, s1, s2, dCons, dNil, dVar, dMov, dC, kLenN, peek, lenW, noDict, lenD, sCmp, sOrd, sEq, kEq, sIn, sIsN, nonW, sInt, sAdd, sMul, sRows, rowD, flat, dsOf, seqW, dRet, dRetN, dDrop, dBrk, dCnt, dAsg, gN, gTp, gsCons, gsNil, DL.gSub, setW, useW, useWs, useD, nosto, nostos, fz, fzs, dCall, dCall0, argsD, argD, dLst, dTup, dIte, dAnd, dOr, dNot, dNeg, dBm, isTy, mApp, sIx, kItem, rowOf, dSl, kSl, dNo, dSo, kInt, kStr, kRepr, kListOf, kIsi, tyN, dFor, dRow, dRng1, dRng2, dComp, wipeE, dYes, dJoin, dJs, dFmt, kFmt, pkS, kI2, kAbs, okq, eqv, okqs, eqvs, kCat, dsOf_map, nostos_d, fzs_d, List.getElem?_cons_zero, List.getElem?_cons_succ, List.set_cons_zero, List.set_cons_succ, List.length_cons, List.length_nil, Option.bind_some, Option.map_some, if_true, if_false, Bool.false_eq_true, decide_eq_true_eq, true_and, List.length_map, retE]
        exact ⟨_, rfl, hk _ (by simp) (okS_le hz (by decide))⟩
      · simp only [t__law_name_0_4, dSeq, dNext, dIf, dOrT, dAndT, dNotT, dBl, kBl, dTru, kTru, DL.truD, dOp, dCl, s1, s2, dCons, dNil, dVar, dMov, dC, kLenN, peek, lenW, noDict, lenD, sCmp, sOrd, sEq, kEq, sIn, sIsN, nonW, sInt, sAdd, sMul, sRows, rowD, flat, dsOf, seqW, dRet, dRetN, dDrop, dBrk, dCnt, dAsg, gN, gTp, gsCons, gsNil, DL.gSub, setW, useW, useWs, useD, nosto, nostos, fz, fzs, dCall, dCall0, argsD, argD, dLst, dTup, dIte, dAnd, dOr, dNot, dNeg, dBm, isTy, mApp, sIx, kItem, rowOf, dSl, kSl, dNo, dSo, kInt, kStr, kRepr, kListOf, kIsi, tyN, dFor, dRow, dRng1, dRng2, dComp, wipeE, dYes, dJoin, dJs, dFmt, kFmt, pkS, kI2, kAbs, okq, eqv, okqs, eqvs, kCat, dsOf_map, nostos_d, fzs_d, List.getElem?_cons_zero, List.getElem?_cons_succ, List.set_cons_zero, List.set_cons_succ, List.length_cons, List.length_nil, Option.bind_some, Option.map_some, if_true, if_false, Bool.false_eq_true, decide_eq_true_eq, true_and, List.length_map, retE]
        exact ⟨_, rfl, hk w wn ⟨by omega, hc⟩⟩
theorem p__law_digits : ∀ ws k kx, ws.length = 1 → S__law_digits ws k kx → t__law_digits (retE k) (fun x _ => kx x) (startE N__law_digits ws) := by
  rintro ws k kx - ⟨rfl, hk⟩
  rw [se__law_digits]
  simp only [t__law_digits, t__law_digits_0_0, dSeq, dNext, dIf, dOrT, dAndT, dNotT, dBl, kBl, dTru, kTru, DL.truD, dOp, dCl, s1, s2, dCons, dNil, dVar, dMov, dC, kLenN, peek, lenW, noDict, lenD, sCmp, sOrd, sEq, kEq, sIn, sIsN, nonW, sInt, sAdd, sMul, sRows, rowD, flat, dsOf, seqW, dRet, dRetN, dDrop, dBrk, dCnt, dAsg, gN, gTp, gsCons, gsNil, DL.gSub, setW, useW, useWs, useD, nosto, nostos, fz, fzs, dCall, dCall0, argsD, argD, dLst, dTup, dIte, dAnd, dOr, dNot, dNeg, dBm, isTy, mApp, sIx, kItem, rowOf, dSl, kSl, dNo, dSo, kInt, kStr, kRepr, kListOf, kIsi, tyN, dFor, dRow, dRng1, dRng2, dComp, wipeE, dYes, dJoin, dJs, dFmt, kFmt, pkS, kI2, kAbs, okq, eqv, okqs, eqvs, kCat, dsOf_map, nostos_d, fzs_d, List.getElem?_cons_zero, List.getElem?_cons_succ, List.set_cons_zero, List.set_cons_succ, List.length_cons, List.length_nil, Option.bind_some, Option.map_some, if_true, if_false, Bool.false_eq_true, decide_eq_true_eq, true_and, List.length_map, S__law_between]
  refine ⟨1, 11, rfl, by decide, by decide, fun i i0 i1 => ?_⟩
  simp only [dSeq, dNext, dIf, dOrT, dAndT, dNotT, dBl, kBl, dTru, kTru, DL.truD, dOp, dCl, s1, s2, dCons, dNil, dVar, dMov, dC, kLenN, peek, lenW, noDict, lenD, sCmp, sOrd, sEq, kEq, sIn, sIsN, nonW, sInt, sAdd, sMul, sRows, rowD, flat, dsOf, seqW, dRet, dRetN, dDrop, dBrk, dCnt, dAsg, gN, gTp, gsCons, gsNil, DL.gSub, setW, useW, useWs, useD, nosto, nostos, fz, fzs, dCall, dCall0, argsD, argD, dLst, dTup, dIte, dAnd, dOr, dNot, dNeg, dBm, isTy, mApp, sIx, kItem, rowOf, dSl, kSl, dNo, dSo, kInt, kStr, kRepr, kListOf, kIsi, tyN, dFor, dRow, dRng1, dRng2, dComp, wipeE, dYes, dJoin, dJs, dFmt, kFmt, pkS, kI2, kAbs, okq, eqv, okqs, eqvs, kCat, dsOf_map, nostos_d, fzs_d, List.getElem?_cons_zero, List.getElem?_cons_succ, List.set_cons_zero, List.set_cons_succ, List.length_cons, List.length_nil, Option.bind_some, Option.map_some, if_true, if_false, Bool.false_eq_true, decide_eq_true_eq, true_and, List.length_map, clear, flatL]
  refine ⟨⟨by omega, by omega⟩, ?_⟩
  refine compL_any (fun y => ∃ c, c < 128 ∧ y = .d (.str [c])) (fun w hw acc K hK ha => ?_) (by rw [rangeW_len]; exact szl (by simp; omega)) (fun ys ly hy => ?_)
  · simp only [compStep, dSeq, dNext, dIf, dOrT, dAndT, dNotT, dBl, kBl, dTru, kTru, DL.truD, dOp, dCl, s1, s2, dCons, dNil, dVar, dMov, dC, kLenN, peek, lenW, noDict, lenD, sCmp, sOrd, sEq, kEq, sIn, sIsN, nonW, sInt, sAdd, sMul, sRows, rowD, flat, dsOf, seqW, dRet, dRetN, dDrop, dBrk, dCnt, dAsg, gN, gTp, gsCons, gsNil, DL.gSub, setW, useW, useWs, useD, nosto, nostos, fz, fzs, dCall, dCall0, argsD, argD, dLst, dTup, dIte, dAnd, dOr, dNot, dNeg, dBm, isTy, mApp, sIx, kItem, rowOf, dSl, kSl, dNo, dSo, kInt, kStr, kRepr, kListOf, kIsi, tyN, dFor, dRow, dRng1, dRng2, dComp, wipeE, dYes, dJoin, dJs, dFmt, kFmt, pkS, kI2, kAbs, okq, eqv, okqs, eqvs, kCat, dsOf_map, nostos_d, fzs_d, List.getElem?_cons_zero, List.getElem?_cons_succ, List.set_cons_zero, List.set_cons_succ, List.length_cons, List.length_nil, Option.bind_some, Option.map_some, if_true, if_false, Bool.false_eq_true, decide_eq_true_eq, true_and, List.length_map, S__law_take, S_take]
    refine ⟨by decide, 10, rfl, by decide, by decide, fun i i0 i1 => ?_⟩
    obtain ⟨c, ec, mc⟩ := at_in (s := [48, 49, 50, 51, 52, 53, 54, 55, 56, 57]) i0 (by simpa using i1)
    simp only [dSeq, dNext, dIf, dOrT, dAndT, dNotT, dBl, kBl, dTru, kTru, DL.truD, dOp, dCl, s1, s2, dCons, dNil, dVar, dMov, dC, kLenN, peek, lenW, noDict, lenD, sCmp, sOrd, sEq, kEq, sIn, sIsN, nonW, sInt, sAdd, sMul, sRows, rowD, flat, dsOf, seqW, dRet, dRetN, dDrop, dBrk, dCnt, dAsg, gN, gTp, gsCons, gsNil, DL.gSub, setW, useW, useWs, useD, nosto, nostos, fz, fzs, dCall, dCall0, argsD, argD, dLst, dTup, dIte, dAnd, dOr, dNot, dNeg, dBm, isTy, mApp, sIx, kItem, rowOf, dSl, kSl, dNo, dSo, kInt, kStr, kRepr, kListOf, kIsi, tyN, dFor, dRow, dRng1, dRng2, dComp, wipeE, dYes, dJoin, dJs, dFmt, kFmt, pkS, kI2, kAbs, okq, eqv, okqs, eqvs, kCat, dsOf_map, nostos_d, fzs_d, List.getElem?_cons_zero, List.getElem?_cons_succ, List.set_cons_zero, List.set_cons_succ, List.length_cons, List.length_nil, Option.bind_some, Option.map_some, if_true, if_false, Bool.false_eq_true, decide_eq_true_eq, true_and, List.length_map, clear, flatL, ec]
    have hc : c < 128 := (by decide : ∀ c ∈ ([48, 49, 50, 51, 52, 53, 54, 55, 56, 57] : List Nat), c < 128) c mc
    exact ⟨szl (by decide), ha, hK _ ⟨c, hc, rfl⟩⟩
  · obtain ⟨l, rfl, hl⟩ := choose_map hy
    rw [List.length_map, rangeW_len] at ly
    have l1 : 1 ≤ l.length := by omega
    have l2 : l.length ≤ 11 := by omega
    have ok : okS l 11 := ⟨l2, hl⟩
    rw [List.nil_append]
    refine mJoin_chars (l := l) (flat_map (f := fun c => D.str [c])) (by omega) ?_
    simp only [dSeq, dNext, dIf, dOrT, dAndT, dNotT, dBl, kBl, dTru, kTru, DL.truD, dOp, dCl, s1, s2, dCons, dNil, dVar, dMov, dC, kLenN, peek, lenW, noDict, lenD, sCmp, sOrd, sEq, kEq, sIn, sIsN, nonW, sInt, sAdd, sMul, sRows, rowD, flat, dsOf, seqW, dRet, dRetN, dDrop, dBrk, dCnt, dAsg, gN, gTp, gsCons, gsNil, DL.gSub, setW, useW, useWs, useD, nosto, nostos, fz, fzs, dCall, dCall0, argsD, argD, dLst, dTup, dIte, dAnd, dOr, dNot, dNeg, dBm, isTy, mApp, sIx, kItem, rowOf, dSl, kSl, dNo, dSo, kInt, kStr, kRepr, kListOf, kIsi, tyN, dFor, dRow, dRng1, dRng2, dComp, wipeE, dYes, dJoin, dJs, dFmt, kFmt, pkS, kI2, kAbs, okq, eqv, okqs, eqvs, kCat, dsOf_map, nostos_d, fzs_d, List.getElem?_cons_zero, List.getElem?_cons_succ, List.set_cons_zero, List.set_cons_succ, List.length_cons, List.length_nil, Option.bind_some, Option.map_some, if_true, if_false, Bool.false_eq_true, decide_eq_true_eq, true_and, List.length_map]
    refine ⟨by decide, ?_⟩
    simp only [t__law_digits_0_1, dSeq, dNext, dIf, dOrT, dAndT, dNotT, dBl, kBl, dTru, kTru, DL.truD, dOp, dCl, s1, s2, dCons, dNil, dVar, dMov, dC, kLenN, peek, lenW, noDict, lenD, sCmp, sOrd, sEq, kEq, sIn, sIsN, nonW, sInt, sAdd, sMul, sRows, rowD, flat, dsOf, seqW, dRet, dRetN, dDrop, dBrk, dCnt, dAsg, gN, gTp, gsCons, gsNil, DL.gSub, setW, useW, useWs, useD, nosto, nostos, fz, fzs, dCall, dCall0, argsD, argD, dLst, dTup, dIte, dAnd, dOr, dNot, dNeg, dBm, isTy, mApp, sIx, kItem, rowOf, dSl, kSl, dNo, dSo, kInt, kStr, kRepr, kListOf, kIsi, tyN, dFor, dRow, dRng1, dRng2, dComp, wipeE, dYes, dJoin, dJs, dFmt, kFmt, pkS, kI2, kAbs, okq, eqv, okqs, eqvs, kCat, dsOf_map, nostos_d, fzs_d, List.getElem?_cons_zero, List.getElem?_cons_succ, List.set_cons_zero, List.set_cons_succ, List.length_cons, List.length_nil, Option.bind_some, Option.map_some, if_true, if_false, Bool.false_eq_true, decide_eq_true_eq, true_and, List.length_map, S__law_take, S_take]
    refine ⟨8, rfl, by decide, by decide, fun ch c0 c1 => ?_⟩
    simp only [dSeq, dNext, dIf, dOrT, dAndT, dNotT, dBl, kBl, dTru, kTru, DL.truD, dOp, dCl, s1, s2, dCons, dNil, dVar, dMov, dC, kLenN, peek, lenW, noDict, lenD, sCmp, sOrd, sEq, kEq, sIn, sIsN, nonW, sInt, sAdd, sMul, sRows, rowD, flat, dsOf, seqW, dRet, dRetN, dDrop, dBrk, dCnt, dAsg, gN, gTp, gsCons, gsNil, DL.gSub, setW, useW, useWs, useD, nosto, nostos, fz, fzs, dCall, dCall0, argsD, argD, dLst, dTup, dIte, dAnd, dOr, dNot, dNeg, dBm, isTy, mApp, sIx, kItem, rowOf, dSl, kSl, dNo, dSo, kInt, kStr, kRepr, kListOf, kIsi, tyN, dFor, dRow, dRng1, dRng2, dComp, wipeE, dYes, dJoin, dJs, dFmt, kFmt, pkS, kI2, kAbs, okq, eqv, okqs, eqvs, kCat, dsOf_map, nostos_d, fzs_d, List.getElem?_cons_zero, List.getElem?_cons_succ, List.set_cons_zero, List.set_cons_succ, List.length_cons, List.length_nil, Option.bind_some, Option.map_some, if_true, if_false, Bool.false_eq_true, decide_eq_true_eq, true_and, List.length_map, clear, flatL]
    refine ⟨by decide, ?_⟩
    simp only [t__law_digits_0_2, dSeq, dNext, dIf, dOrT, dAndT, dNotT, dBl, kBl, dTru, kTru, DL.truD, dOp, dCl, s1, s2, dCons, dNil, dVar, dMov, dC, kLenN, peek, lenW, noDict, lenD, sCmp, sOrd, sEq, kEq, sIn, sIsN, nonW, sInt, sAdd, sMul, sRows, rowD, flat, dsOf, seqW, dRet, dRetN, dDrop, dBrk, dCnt, dAsg, gN, gTp, gsCons, gsNil, DL.gSub, setW, useW, useWs, useD, nosto, nostos, fz, fzs, dCall, dCall0, argsD, argD, dLst, dTup, dIte, dAnd, dOr, dNot, dNeg, dBm, isTy, mApp, sIx, kItem, rowOf, dSl, kSl, dNo, dSo, kInt, kStr, kRepr, kListOf, kIsi, tyN, dFor, dRow, dRng1, dRng2, dComp, wipeE, dYes, dJoin, dJs, dFmt, kFmt, pkS, kI2, kAbs, okq, eqv, okqs, eqvs, kCat, dsOf_map, nostos_d, fzs_d, List.getElem?_cons_zero, List.getElem?_cons_succ, List.set_cons_zero, List.set_cons_succ, List.length_cons, List.length_nil, Option.bind_some, Option.map_some, if_true, if_false, Bool.false_eq_true, decide_eq_true_eq, true_and, List.length_map, S__law_take, S_take]
    refine ⟨szl (by omega), _, rfl, by omega, by omega, fun p p0 p1 => ?_⟩
    simp only [dSeq, dNext, dIf, dOrT, dAndT, dNotT, dBl, kBl, dTru, kTru, DL.truD, dOp, dCl, s1, s2, dCons, dNil, dVar, dMov, dC, kLenN, peek, lenW, noDict, lenD, sCmp, sOrd, sEq, kEq, sIn, sIsN, nonW, sInt, sAdd, sMul, sRows, rowD, flat, dsOf, seqW, dRet, dRetN, dDrop, dBrk, dCnt, dAsg, gN, gTp, gsCons, gsNil, DL.gSub, setW, useW, useWs, useD, nosto, nostos, fz, fzs, dCall, dCall0, argsD, argD, dLst, dTup, dIte, dAnd, dOr, dNot, dNeg, dBm, isTy, mApp, sIx, kItem, rowOf, dSl, kSl, dNo, dSo, kInt, kStr, kRepr, kListOf, kIsi, tyN, dFor, dRow, dRng1, dRng2, dComp, wipeE, dYes, dJoin, dJs, dFmt, kFmt, pkS, kI2, kAbs, okq, eqv, okqs, eqvs, kCat, dsOf_map, nostos_d, fzs_d, List.getElem?_cons_zero, List.getElem?_cons_succ, List.set_cons_zero, List.set_cons_succ, List.length_cons, List.length_nil, Option.bind_some, Option.map_some, if_true, if_false, Bool.false_eq_true, decide_eq_true_eq, true_and, List.length_map, clear, flatL]
    refine ⟨by decide, ?_⟩
    simp only [t__law_digits_0_3, dSeq, dNext, dIf, dOrT, dAndT, dNotT, dBl, kBl, dTru, kTru, DL.truD, dOp, dCl, s1, s2, dCons, dNil, dVar, dMov, dC, kLenN, peek, lenW, noDict, lenD, sCmp, sOrd, sEq, kEq, sIn, sIsN, nonW, sInt, sAdd, sMul, sRows, rowD, flat, dsOf, seqW, dRet, dRetN, dDrop, dBrk, dCnt, dAsg, gN, gTp, gsCons, gsNil, DL.gSub, setW, useW, useWs, useD, nosto, nostos, fz, fzs, dCall, dCall0, argsD, argD, dLst, dTup, dIte, dAnd, dOr, dNot, dNeg, dBm, isTy, mApp, sIx, kItem, rowOf, dSl, kSl, dNo, dSo, kInt, kStr, kRepr, kListOf, kIsi, tyN, dFor, dRow, dRng1, dRng2, dComp, wipeE, dYes, dJoin, dJs, dFmt, kFmt, pkS, kI2, kAbs, okq, eqv, okqs, eqvs, kCat, dsOf_map, nostos_d, fzs_d, List.getElem?_cons_zero, List.getElem?_cons_succ, List.set_cons_zero, List.set_cons_succ, List.length_cons, List.length_nil, Option.bind_some, Option.map_some, if_true, if_false, Bool.false_eq_true, decide_eq_true_eq, true_and, List.length_map, Bool.false_bne]
    split
    · simp only [t__law_digits_4_0, dSeq, dNext, dIf, dOrT, dAndT, dNotT, dBl, kBl, dTru, kTru, DL.truD, dOp, dCl, s1, s2, dCons, dNil, dVar, dMov, dC, kLenN, peek, lenW, noDict, lenD, sCmp, sOrd, sEq, kEq, sIn, sIsN, nonW, sInt, sAdd, sMul, sRows, rowD, flat, dsOf, seqW, dRet, dRetN, dDrop, dBrk, dCnt, dAsg, gN, gTp, gsCons, gsNil, DL.gSub, setW, useW, useWs, useD, nosto, nostos, fz, fzs, dCall, dCall0, argsD, argD, dLst, dTup, dIte, dAnd, dOr, dNot, dNeg, dBm, isTy, mApp, sIx, kItem, rowOf, dSl, kSl, dNo, dSo, kInt, kStr, kRepr, kListOf, kIsi, tyN, dFor, dRow, dRng1, dRng2, dComp, wipeE, dYes, dJoin, dJs, dFmt, kFmt, pkS, kI2, kAbs, okq, eqv, okqs, eqvs, kCat, dsOf_map, nostos_d, fzs_d, List.getElem?_cons_zero, List.getElem?_cons_succ, List.set_cons_zero, List.set_cons_succ, List.length_cons, List.length_nil, Option.bind_some, Option.map_some, if_true, if_false, Bool.false_eq_true, decide_eq_true_eq, true_and, List.length_map, retE]
      have hz := okS_app (a := [48]) (okS_one (by decide)) (okS_cut (a := l) (some 1) none ok)
      have := hz.1
      exact ⟨szl (by omega), szl (by rw [List.length_append] at this; simp at this ⊢; omega), _, rfl, hk _ (okS_le hz (by decide))⟩
    simp only [t__law_digits_0_4, dSeq, dNext, dIf, dOrT, dAndT, dNotT, dBl, kBl, dTru, kTru, DL.truD, dOp, dCl, s1, s2, dCons, dNil, dVar, dMov, dC, kLenN, peek, lenW, noDict, lenD, sCmp, sOrd, sEq, kEq, sIn, sIsN, nonW, sInt, sAdd, sMul, sRows, rowD, flat, dsOf, seqW, dRet, dRetN, dDrop, dBrk, dCnt, dAsg, gN, gTp, gsCons, gsNil, DL.gSub, setW, useW, useWs, useD, nosto, nostos, fz, fzs, dCall, dCall0, argsD, argD, dLst, dTup, dIte, dAnd, dOr, dNot, dNeg, dBm, isTy, mApp, sIx, kItem, rowOf, dSl, kSl, dNo, dSo, kInt, kStr, kRepr, kListOf, kIsi, tyN, dFor, dRow, dRng1, dRng2, dComp, wipeE, dYes, dJoin, dJs, dFmt, kFmt, pkS, kI2, kAbs, okq, eqv, okqs, eqvs, kCat, dsOf_map, nostos_d, fzs_d, List.getElem?_cons_zero, List.getElem?_cons_succ, List.set_cons_zero, List.set_cons_succ, List.length_cons, List.length_nil, Option.bind_some, Option.map_some, if_true, if_false, Bool.false_eq_true, decide_eq_true_eq, true_and, List.length_map, Bool.false_bne]
    split
    · simp only [t__law_digits_3_0, dSeq, dNext, dIf, dOrT, dAndT, dNotT, dBl, kBl, dTru, kTru, DL.truD, dOp, dCl, s1, s2, dCons, dNil, dVar, dMov, dC, kLenN, peek, lenW, noDict, lenD, sCmp, sOrd, sEq, kEq, sIn, sIsN, nonW, sInt, sAdd, sMul, sRows, rowD, flat, dsOf, seqW, dRet, dRetN, dDrop, dBrk, dCnt, dAsg, gN, gTp, gsCons, gsNil, DL.gSub, setW, useW, useWs, useD, nosto, nostos, fz, fzs, dCall, dCall0, argsD, argD, dLst, dTup, dIte, dAnd, dOr, dNot, dNeg, dBm, isTy, mApp, sIx, kItem, rowOf, dSl, kSl, dNo, dSo, kInt, kStr, kRepr, kListOf, kIsi, tyN, dFor, dRow, dRng1, dRng2, dComp, wipeE, dYes, dJoin, dJs, dFmt, kFmt, pkS, kI2, kAbs, okq, eqv, okqs, eqvs, kCat, dsOf_map, nostos_d, fzs_d, List.getElem?_cons_zero, List.getElem?_cons_succ, List.set_cons_zero, List.set_cons_succ, List.length_cons, List.length_nil, Option.bind_some, Option.map_some, if_true, if_false, Bool.false_eq_true, decide_eq_true_eq, true_and, List.length_map, S__law_char]
      refine ⟨szl (by omega), fun c hc => ?_⟩
      simp only [dSeq, dNext, dIf, dOrT, dAndT, dNotT, dBl, kBl, dTru, kTru, DL.truD, dOp, dCl, s1, s2, dCons, dNil, dVar, dMov, dC, kLenN, peek, lenW, noDict, lenD, sCmp, sOrd, sEq, kEq, sIn, sIsN, nonW, sInt, sAdd, sMul, sRows, rowD, flat, dsOf, seqW, dRet, dRetN, dDrop, dBrk, dCnt, dAsg, gN, gTp, gsCons, gsNil, DL.gSub, setW, useW, useWs, useD, nosto, nostos, fz, fzs, dCall, dCall0, argsD, argD, dLst, dTup, dIte, dAnd, dOr, dNot, dNeg, dBm, isTy, mApp, sIx, kItem, rowOf, dSl, kSl, dNo, dSo, kInt, kStr, kRepr, kListOf, kIsi, tyN, dFor, dRow, dRng1, dRng2, dComp, wipeE, dYes, dJoin, dJs, dFmt, kFmt, pkS, kI2, kAbs, okq, eqv, okqs, eqvs, kCat, dsOf_map, nostos_d, fzs_d, List.getElem?_cons_zero, List.getElem?_cons_succ, List.set_cons_zero, List.set_cons_succ, List.length_cons, List.length_nil, Option.bind_some, Option.map_some, if_true, if_false, Bool.false_eq_true, decide_eq_true_eq, true_and, List.length_map, clear, flatL, retE]
      have h1 := okS_cut none (some p) ok
      have h2 := okS_app h1 (okS_one hc)
      have h3 := okS_cut (some (p + 1)) none ok
      have hz := okS_app h2 h3
      have a1 := h1.1
      have a2 := h2.1
      have a3 := h3.1
      exact ⟨szl (by omega), szl (by omega), szl (by omega), _, rfl, hk _ (okS_le hz (by decide))⟩
    simp only [t__law_digits_0_5, dSeq, dNext, dIf, dOrT, dAndT, dNotT, dBl, kBl, dTru, kTru, DL.truD, dOp, dCl, s1, s2, dCons, dNil, dVar, dMov, dC, kLenN, peek, lenW, noDict, lenD, sCmp, sOrd, sEq, kEq, sIn, sIsN, nonW, sInt, sAdd, sMul, sRows, rowD, flat, dsOf, seqW, dRet, dRetN, dDrop, dBrk, dCnt, dAsg, gN, gTp, gsCons, gsNil, DL.gSub, setW, useW, useWs, useD, nosto, nostos, fz, fzs, dCall, dCall0, argsD, argD, dLst, dTup, dIte, dAnd, dOr, dNot, dNeg, dBm, isTy, mApp, sIx, kItem, rowOf, dSl, kSl, dNo, dSo, kInt, kStr, kRepr, kListOf, kIsi, tyN, dFor, dRow, dRng1, dRng2, dComp, wipeE, dYes, dJoin, dJs, dFmt, kFmt, pkS, kI2, kAbs, okq, eqv, okqs, eqvs, kCat, dsOf_map, nostos_d, fzs_d, List.getElem?_cons_zero, List.getElem?_cons_succ, List.set_cons_zero, List.set_cons_succ, List.length_cons, List.length_nil, Option.bind_some, Option.map_some, if_true, if_false, Bool.false_eq_true, decide_eq_true_eq, true_and, List.length_map, Bool.false_bne]
    split
    · simp only [t__law_digits_2_0, dSeq, dNext, dIf, dOrT, dAndT, dNotT, dBl, kBl, dTru, kTru, DL.truD, dOp, dCl, s1, s2, dCons, dNil, dVar, dMov, dC, kLenN, peek, lenW, noDict, lenD, sCmp, sOrd, sEq, kEq, sIn, sIsN, nonW, sInt, sAdd, sMul, sRows, rowD, flat, dsOf, seqW, dRet, dRetN, dDrop, dBrk, dCnt, dAsg, gN, gTp, gsCons, gsNil, DL.gSub, setW, useW, useWs, useD, nosto, nostos, fz, fzs, dCall, dCall0, argsD, argD, dLst, dTup, dIte, dAnd, dOr, dNot, dNeg, dBm, isTy, mApp, sIx, kItem, rowOf, dSl, kSl, dNo, dSo, kInt, kStr, kRepr, kListOf, kIsi, tyN, dFor, dRow, dRng1, dRng2, dComp, wipeE, dYes, dJoin, dJs, dFmt, kFmt, pkS, kI2, kAbs, okq, eqv, okqs, eqvs, kCat, dsOf_map, nostos_d, fzs_d, List.getElem?_cons_zero, List.getElem?_cons_succ, List.set_cons_zero, List.set_cons_succ, List.length_cons, List.length_nil, Option.bind_some, Option.map_some, if_true, if_false, Bool.false_eq_true, decide_eq_true_eq, true_and, List.length_map, S__law_between]
      refine ⟨1, 10, rfl, by decide, by decide, fun i i0 i1 => ?_⟩
      simp only [dSeq, dNext, dIf, dOrT, dAndT, dNotT, dBl, kBl, dTru, kTru, DL.truD, dOp, dCl, s1, s2, dCons, dNil, dVar, dMov, dC, kLenN, peek, lenW, noDict, lenD, sCmp, sOrd, sEq, kEq, sIn, sIsN, nonW, sInt, sAdd, sMul, sRows, rowD, flat, dsOf, seqW, dRet, dRetN, dDrop, dBrk, dCnt, dAsg, gN, gTp, gsCons, gsNil, DL.gSub, setW, useW, useWs, useD, nosto, nostos, fz, fzs, dCall, dCall0, argsD, argD, dLst, dTup, dIte, dAnd, dOr, dNot, dNeg, dBm, isTy, mApp, sIx, kItem, rowOf, dSl, kSl, dNo, dSo, kInt, kStr, kRepr, kListOf, kIsi, tyN, dFor, dRow, dRng1, dRng2, dComp, wipeE, dYes, dJoin, dJs, dFmt, kFmt, pkS, kI2, kAbs, okq, eqv, okqs, eqvs, kCat, dsOf_map, nostos_d, fzs_d, List.getElem?_cons_zero, List.getElem?_cons_succ, List.set_cons_zero, List.set_cons_succ, List.length_cons, List.length_nil, Option.bind_some, Option.map_some, if_true, if_false, Bool.false_eq_true, decide_eq_true_eq, true_and, List.length_map, clear, flatL, retE]
      obtain ⟨n, rfl⟩ : ∃ n : Nat, i = n := ⟨i.toNat, by omega⟩
      have e : ∀ n, reps [57] n = List.replicate n 57 := fun n => by
        unfold reps
        induction n with
        | zero => rfl
        | succ n ih => rw [List.replicate_succ, List.flatten_cons, ih, List.replicate_succ]; rfl
      refine ⟨⟨by omega, by omega, by rw [Int.toNat_natCast]; exact szl (by omega)⟩, _, rfl, ?_⟩
      rw [Int.toNat_natCast, e]
      exact hk _ ⟨by rw [List.length_replicate]; omega, fun c m => by rw [List.eq_of_mem_replicate m]; decide⟩
    simp only [t__law_digits_0_6, dSeq, dNext, dIf, dOrT, dAndT, dNotT, dBl, kBl, dTru, kTru, DL.truD, dOp, dCl, s1, s2, dCons, dNil, dVar, dMov, dC, kLenN, peek, lenW, noDict, lenD, sCmp, sOrd, sEq, kEq, sIn, sIsN, nonW, sInt, sAdd, sMul, sRows, rowD, flat, dsOf, seqW, dRet, dRetN, dDrop, dBrk, dCnt, dAsg, gN, gTp, gsCons, gsNil, DL.gSub, setW, useW, useWs, useD, nosto, nostos, fz, fzs, dCall, dCall0, argsD, argD, dLst, dTup, dIte, dAnd, dOr, dNot, dNeg, dBm, isTy, mApp, sIx, kItem, rowOf, dSl, kSl, dNo, dSo, kInt, kStr, kRepr, kListOf, kIsi, tyN, dFor, dRow, dRng1, dRng2, dComp, wipeE, dYes, dJoin, dJs, dFmt, kFmt, pkS, kI2, kAbs, okq, eqv, okqs, eqvs, kCat, dsOf_map, nostos_d, fzs_d, List.getElem?_cons_zero, List.getElem?_cons_succ, List.set_cons_zero, List.set_cons_succ, List.length_cons, List.length_nil, Option.bind_some, Option.map_some, if_true, if_false, Bool.false_eq_true, decide_eq_true_eq, true_and, List.length_map, Bool.false_bne]
    split
    · simp only [t__law_digits_1_0, dSeq, dNext, dIf, dOrT, dAndT, dNotT, dBl, kBl, dTru, kTru, DL.truD, dOp, dCl, s1, s2, dCons, dNil, dVar, dMov, dC, kLenN, peek, lenW, noDict, lenD, sCmp, sOrd, sEq, kEq, sIn, sIsN, nonW, sInt, sAdd, sMul, sRows, rowD, flat, dsOf, seqW, dRet, dRetN, dDrop, dBrk, dCnt, dAsg, gN, gTp, gsCons, gsNil, DL.gSub, setW, useW, useWs, useD, nosto, nostos, fz, fzs, dCall, dCall0, argsD, argD, dLst, dTup, dIte, dAnd, dOr, dNot, dNeg, dBm, isTy, mApp, sIx, kItem, rowOf, dSl, kSl, dNo, dSo, kInt, kStr, kRepr, kListOf, kIsi, tyN, dFor, dRow, dRng1, dRng2, dComp, wipeE, dYes, dJoin, dJs, dFmt, kFmt, pkS, kI2, kAbs, okq, eqv, okqs, eqvs, kCat, dsOf_map, nostos_d, fzs_d, List.getElem?_cons_zero, List.getElem?_cons_succ, List.set_cons_zero, List.set_cons_succ, List.length_cons, List.length_nil, Option.bind_some, Option.map_some, if_true, if_false, Bool.false_eq_true, decide_eq_true_eq, true_and, List.length_map, retE]
      have hz := okS_app (a := [49]) (okS_one (by decide)) (okS_cut (a := l) (some 1) (some 9) ok)
      have := hz.1
      exact ⟨szl (by omega), szl (by rw [List.length_append] at this; simp at this ⊢; omega), _, rfl, hk _ (okS_le hz (by decide))⟩
    simp only [t__law_digits_0_7, dSeq, dNext, dIf, dOrT, dAndT, dNotT, dBl, kBl, dTru, kTru, DL.truD, dOp, dCl, s1, s2, dCons, dNil, dVar, dMov, dC, kLenN, peek, lenW, noDict, lenD, sCmp, sOrd, sEq, kEq, sIn, sIsN, nonW, sInt, sAdd, sMul, sRows, rowD, flat, dsOf, seqW, dRet, dRetN, dDrop, dBrk, dCnt, dAsg, gN, gTp, gsCons, gsNil, DL.gSub, setW, useW, useWs, useD, nosto, nostos, fz, fzs, dCall, dCall0, argsD, argD, dLst, dTup, dIte, dAnd, dOr, dNot, dNeg, dBm, isTy, mApp, sIx, kItem, rowOf, dSl, kSl, dNo, dSo, kInt, kStr, kRepr, kListOf, kIsi, tyN, dFor, dRow, dRng1, dRng2, dComp, wipeE, dYes, dJoin, dJs, dFmt, kFmt, pkS, kI2, kAbs, okq, eqv, okqs, eqvs, kCat, dsOf_map, nostos_d, fzs_d, List.getElem?_cons_zero, List.getElem?_cons_succ, List.set_cons_zero, List.set_cons_succ, List.length_cons, List.length_nil, Option.bind_some, Option.map_some, if_true, if_false, Bool.false_eq_true, decide_eq_true_eq, true_and, List.length_map, retE]
    exact ⟨_, rfl, hk _ (okS_le ok (by decide))⟩
end Lk27

namespace Lk27
open PySem DL
def okB (n : Nat) (y : D) : Bool := match y with
  | .str s => decide (s.length ≤ n) && s.all (· < 128)
  | _ => false
theorem okB_ok {n : Nat} {y : D} (h : okB n y = true) : ∃ s, y = .str s ∧ okS s n := by
  unfold okB at h
  split at h
  · obtain ⟨h1, h2⟩ := band h
    exact ⟨_, rfl, of_decide_eq_true h1, fun c m => of_decide_eq_true (List.all_eq_true.mp h2 c m)⟩
  · cases h
theorem at_inL {α : Type} {s : List α} {i : Int} (h0 : 0 ≤ i) (h1 : i < s.length) : ∃ c, L2.atI s i = some c ∧ c ∈ s := by
  obtain ⟨j, rfl⟩ : ∃ j : Nat, i = j := ⟨i.toNat, by omega⟩
  have hj : j < s.length := by omega
  exact ⟨s[j], L2.atI_nat (List.getElem?_eq_getElem hj), List.getElem_mem hj⟩
theorem p__law_word : ∀ ws k kx, ws.length = 1 → S__law_word ws k kx → t__law_word (retE k) (fun x _ => kx x) (startE N__law_word ws) := by
  rintro ws k kx - ⟨rfl, hk⟩
  rw [se__law_word]
  simp only [t__law_word, t__law_word_0_0, dSeq, dNext, dIf, dOrT, dAndT, dNotT, dBl, kBl, dTru, kTru, DL.truD, dOp, dCl, s1, s2, dCons, dNil, dVar, dMov, dC, kLenN, peek, lenW, noDict, lenD, sCmp, sOrd, sEq, kEq, sIn, sIsN, nonW, sInt, sAdd, sMul, sRows, rowD, flat, dsOf, seqW, dRet, dRetN, dDrop, dBrk, dCnt, dAsg, gN, gTp, gsCons, gsNil, DL.gSub, setW, useW, useWs, useD, nosto, nostos, fz, fzs, dCall, dCall0, argsD, argD, dLst, dTup, dIte, dAnd, dOr, dNot, dNeg, dBm, isTy, mApp, sIx, kItem, rowOf, dSl, kSl, dNo, dSo, kInt, kStr, kRepr, kListOf, kIsi, tyN, dFor, dRow, dRng1, dRng2, dComp, wipeE, dYes, dJoin, dJs, dFmt, kFmt, pkS, kI2, kAbs, okq, eqv, okqs, eqvs, kCat, dsOf_map, nostos_d, fzs_d, List.getElem?_cons_zero, List.getElem?_cons_succ, List.set_cons_zero, List.set_cons_succ, List.length_cons, List.length_nil, Option.bind_some, Option.map_some, if_true, if_false, Bool.false_eq_true, decide_eq_true_eq, true_and, List.length_map, useWs]
  refine ⟨szl (by decide), by decide, by decide, ?_⟩
  simp only [t__law_word_0_1, dSeq, dNext, dIf, dOrT, dAndT, dNotT, dBl, kBl, dTru, kTru, DL.truD, dOp, dCl, s1, s2, dCons, dNil, dVar, dMov, dC, kLenN, peek, lenW, noDict, lenD, sCmp, sOrd, sEq, kEq, sIn, sIsN, nonW, sInt, sAdd, sMul, sRows, rowD, flat, dsOf, seqW, dRet, dRetN, dDrop, dBrk, dCnt, dAsg, gN, gTp, gsCons, gsNil, DL.gSub, setW, useW, useWs, useD, nosto, nostos, fz, fzs, dCall, dCall0, argsD, argD, dLst, dTup, dIte, dAnd, dOr, dNot, dNeg, dBm, isTy, mApp, sIx, kItem, rowOf, dSl, kSl, dNo, dSo, kInt, kStr, kRepr, kListOf, kIsi, tyN, dFor, dRow, dRng1, dRng2, dComp, wipeE, dYes, dJoin, dJs, dFmt, kFmt, pkS, kI2, kAbs, okq, eqv, okqs, eqvs, kCat, dsOf_map, nostos_d, fzs_d, List.getElem?_cons_zero, List.getElem?_cons_succ, List.set_cons_zero, List.set_cons_succ, List.length_cons, List.length_nil, Option.bind_some, Option.map_some, if_true, if_false, Bool.false_eq_true, decide_eq_true_eq, true_and, List.length_map, useWs]
  refine ⟨szl (by decide), szl (by decide), by decide, ?_⟩
  simp only [t__law_word_0_2, dSeq, dNext, dIf, dOrT, dAndT, dNotT, dBl, kBl, dTru, kTru, DL.truD, dOp, dCl, s1, s2, dCons, dNil, dVar, dMov, dC, kLenN, peek, lenW, noDict, lenD, sCmp, sOrd, sEq, kEq, sIn, sIsN, nonW, sInt, sAdd, sMul, sRows, rowD, flat, dsOf, seqW, dRet, dRetN, dDrop, dBrk, dCnt, dAsg, gN, gTp, gsCons, gsNil, DL.gSub, setW, useW, useWs, useD, nosto, nostos, fz, fzs, dCall, dCall0, argsD, argD, dLst, dTup, dIte, dAnd, dOr, dNot, dNeg, dBm, isTy, mApp, sIx, kItem, rowOf, dSl, kSl, dNo, dSo, kInt, kStr, kRepr, kListOf, kIsi, tyN, dFor, dRow, dRng1, dRng2, dComp, wipeE, dYes, dJoin, dJs, dFmt, kFmt, pkS, kI2, kAbs, okq, eqv, okqs, eqvs, kCat, dsOf_map, nostos_d, fzs_d, List.getElem?_cons_zero, List.getElem?_cons_succ, List.set_cons_zero, List.set_cons_succ, List.length_cons, List.length_nil, Option.bind_some, Option.map_some, if_true, if_false, Bool.false_eq_true, decide_eq_true_eq, true_and, List.length_map, useWs]
  refine ⟨szl (by decide), szl (by decide), by decide, ?_⟩
  simp only [t__law_word_0_3, dSeq, dNext, dIf, dOrT, dAndT, dNotT, dBl, kBl, dTru, kTru, DL.truD, dOp, dCl, s1, s2, dCons, dNil, dVar, dMov, dC, kLenN, peek, lenW, noDict, lenD, sCmp, sOrd, sEq, kEq, sIn, sIsN, nonW, sInt, sAdd, sMul, sRows, rowD, flat, dsOf, seqW, dRet, dRetN, dDrop, dBrk, dCnt, dAsg, gN, gTp, gsCons, gsNil, DL.gSub, setW, useW, useWs, useD, nosto, nostos, fz, fzs, dCall, dCall0, argsD, argD, dLst, dTup, dIte, dAnd, dOr, dNot, dNeg, dBm, isTy, mApp, sIx, kItem, rowOf, dSl, kSl, dNo, dSo, kInt, kStr, kRepr, kListOf, kIsi, tyN, dFor, dRow, dRng1, dRng2, dComp, wipeE, dYes, dJoin, dJs, dFmt, kFmt, pkS, kI2, kAbs, okq, eqv, okqs, eqvs, kCat, dsOf_map, nostos_d, fzs_d, List.getElem?_cons_zero, List.getElem?_cons_succ, List.set_cons_zero, List.set_cons_succ, List.length_cons, List.length_nil, Option.bind_some, Option.map_some, if_true, if_false, Bool.false_eq_true, decide_eq_true_eq, true_and, List.length_map, useWs]
  refine ⟨szl (by decide), szl (by decide), by decide, ?_⟩
  simp only [t__law_word_0_4, dSeq, dNext, dIf, dOrT, dAndT, dNotT, dBl, kBl, dTru, kTru, DL.truD, dOp, dCl, s1, s2, dCons, dNil, dVar, dMov, dC, kLenN, peek, lenW, noDict, lenD, sCmp, sOrd, sEq, kEq, sIn, sIsN, nonW, sInt, sAdd, sMul, sRows, rowD, flat, dsOf, seqW, dRet, dRetN, dDrop, dBrk, dCnt, dAsg, gN, gTp, gsCons, gsNil, DL.gSub, setW, useW, useWs, useD, nosto, nostos, fz, fzs, dCall, dCall0, argsD, argD, dLst, dTup, dIte, dAnd, dOr, dNot, dNeg, dBm, isTy, mApp, sIx, kItem, rowOf, dSl, kSl, dNo, dSo, kInt, kStr, kRepr, kListOf, kIsi, tyN, dFor, dRow, dRng1, dRng2, dComp, wipeE, dYes, dJoin, dJs, dFmt, kFmt, pkS, kI2, kAbs, okq, eqv, okqs, eqvs, kCat, dsOf_map, nostos_d, fzs_d, List.getElem?_cons_zero, List.getElem?_cons_succ, List.set_cons_zero, List.set_cons_succ, List.length_cons, List.length_nil, Option.bind_some, Option.map_some, if_true, if_false, Bool.false_eq_true, decide_eq_true_eq, true_and, List.length_map, useWs]
  refine ⟨szl (by decide), szl (by decide), by decide, ?_⟩
  simp only [t__law_word_0_5, dSeq, dNext, dIf, dOrT, dAndT, dNotT, dBl, kBl, dTru, kTru, DL.truD, dOp, dCl, s1, s2, dCons, dNil, dVar, dMov, dC, kLenN, peek, lenW, noDict, lenD, sCmp, sOrd, sEq, kEq, sIn, sIsN, nonW, sInt, sAdd, sMul, sRows, rowD, flat, dsOf, seqW, dRet, dRetN, dDrop, dBrk, dCnt, dAsg, gN, gTp, gsCons, gsNil, DL.gSub, setW, useW, useWs, useD, nosto, nostos, fz, fzs, dCall, dCall0, argsD, argD, dLst, dTup, dIte, dAnd, dOr, dNot, dNeg, dBm, isTy, mApp, sIx, kItem, rowOf, dSl, kSl, dNo, dSo, kInt, kStr, kRepr, kListOf, kIsi, tyN, dFor, dRow, dRng1, dRng2, dComp, wipeE, dYes, dJoin, dJs, dFmt, kFmt, pkS, kI2, kAbs, okq, eqv, okqs, eqvs, kCat, dsOf_map, nostos_d, fzs_d, List.getElem?_cons_zero, List.getElem?_cons_succ, List.set_cons_zero, List.set_cons_succ, List.length_cons, List.length_nil, Option.bind_some, Option.map_some, if_true, if_false, Bool.false_eq_true, decide_eq_true_eq, true_and, List.length_map, S__law_take, S_take]
  refine ⟨4, rfl, by decide, by decide, fun i i0 i1 => ?_⟩
  simp only [dSeq, dNext, dIf, dOrT, dAndT, dNotT, dBl, kBl, dTru, kTru, DL.truD, dOp, dCl, s1, s2, dCons, dNil, dVar, dMov, dC, kLenN, peek, lenW, noDict, lenD, sCmp, sOrd, sEq, kEq, sIn, sIsN, nonW, sInt, sAdd, sMul, sRows, rowD, flat, dsOf, seqW, dRet, dRetN, dDrop, dBrk, dCnt, dAsg, gN, gTp, gsCons, gsNil, DL.gSub, setW, useW, useWs, useD, nosto, nostos, fz, fzs, dCall, dCall0, argsD, argD, dLst, dTup, dIte, dAnd, dOr, dNot, dNeg, dBm, isTy, mApp, sIx, kItem, rowOf, dSl, kSl, dNo, dSo, kInt, kStr, kRepr, kListOf, kIsi, tyN, dFor, dRow, dRng1, dRng2, dComp, wipeE, dYes, dJoin, dJs, dFmt, kFmt, pkS, kI2, kAbs, okq, eqv, okqs, eqvs, kCat, dsOf_map, nostos_d, fzs_d, List.getElem?_cons_zero, List.getElem?_cons_succ, List.set_cons_zero, List.set_cons_succ, List.length_cons, List.length_nil, Option.bind_some, Option.map_some, if_true, if_false, Bool.false_eq_true, decide_eq_true_eq, true_and, List.length_map, clear, flatL, Bool.false_bne]
  refine ite_i (fun hi => ?_) (fun hi => ?_)
  · simp only [t__law_word_1_0, dSeq, dNext, dIf, dOrT, dAndT, dNotT, dBl, kBl, dTru, kTru, DL.truD, dOp, dCl, s1, s2, dCons, dNil, dVar, dMov, dC, kLenN, peek, lenW, noDict, lenD, sCmp, sOrd, sEq, kEq, sIn, sIsN, nonW, sInt, sAdd, sMul, sRows, rowD, flat, dsOf, seqW, dRet, dRetN, dDrop, dBrk, dCnt, dAsg, gN, gTp, gsCons, gsNil, DL.gSub, setW, useW, useWs, useD, nosto, nostos, fz, fzs, dCall, dCall0, argsD, argD, dLst, dTup, dIte, dAnd, dOr, dNot, dNeg, dBm, isTy, mApp, sIx, kItem, rowOf, dSl, kSl, dNo, dSo, kInt, kStr, kRepr, kListOf, kIsi, tyN, dFor, dRow, dRng1, dRng2, dComp, wipeE, dYes, dJoin, dJs, dFmt, kFmt, pkS, kI2, kAbs, okq, eqv, okqs, eqvs, kCat, dsOf_map, nostos_d, fzs_d, List.getElem?_cons_zero, List.getElem?_cons_succ, List.set_cons_zero, List.set_cons_succ, List.length_cons, List.length_nil, Option.bind_some, Option.map_some, if_true, if_false, Bool.false_eq_true, decide_eq_true_eq, true_and, List.length_map, S__law_text]
    refine ⟨6, rfl, by decide, fun s hs => ?_⟩
    simp only [dSeq, dNext, dIf, dOrT, dAndT, dNotT, dBl, kBl, dTru, kTru, DL.truD, dOp, dCl, s1, s2, dCons, dNil, dVar, dMov, dC, kLenN, peek, lenW, noDict, lenD, sCmp, sOrd, sEq, kEq, sIn, sIsN, nonW, sInt, sAdd, sMul, sRows, rowD, flat, dsOf, seqW, dRet, dRetN, dDrop, dBrk, dCnt, dAsg, gN, gTp, gsCons, gsNil, DL.gSub, setW, useW, useWs, useD, nosto, nostos, fz, fzs, dCall, dCall0, argsD, argD, dLst, dTup, dIte, dAnd, dOr, dNot, dNeg, dBm, isTy, mApp, sIx, kItem, rowOf, dSl, kSl, dNo, dSo, kInt, kStr, kRepr, kListOf, kIsi, tyN, dFor, dRow, dRng1, dRng2, dComp, wipeE, dYes, dJoin, dJs, dFmt, kFmt, pkS, kI2, kAbs, okq, eqv, okqs, eqvs, kCat, dsOf_map, nostos_d, fzs_d, List.getElem?_cons_zero, List.getElem?_cons_succ, List.set_cons_zero, List.set_cons_succ, List.length_cons, List.length_nil, Option.bind_some, Option.map_some, if_true, if_false, Bool.false_eq_true, decide_eq_true_eq, true_and, List.length_map, clear, flatL, retE]
    exact ⟨_, rfl, hk s (okS_le hs (by decide))⟩
  · simp only [t__law_word_0_6, dSeq, dNext, dIf, dOrT, dAndT, dNotT, dBl, kBl, dTru, kTru, DL.truD, dOp, dCl, s1, s2, dCons, dNil, dVar, dMov, dC, kLenN, peek, lenW, noDict, lenD, sCmp, sOrd, sEq, kEq, sIn, sIsN, nonW, sInt, sAdd, sMul, sRows, rowD, flat, dsOf, seqW, dRet, dRetN, dDrop, dBrk, dCnt, dAsg, gN, gTp, gsCons, gsNil, DL.gSub, setW, useW, useWs, useD, nosto, nostos, fz, fzs, dCall, dCall0, argsD, argD, dLst, dTup, dIte, dAnd, dOr, dNot, dNeg, dBm, isTy, mApp, sIx, kItem, rowOf, dSl, kSl, dNo, dSo, kInt, kStr, kRepr, kListOf, kIsi, tyN, dFor, dRow, dRng1, dRng2, dComp, wipeE, dYes, dJoin, dJs, dFmt, kFmt, pkS, kI2, kAbs, okq, eqv, okqs, eqvs, kCat, dsOf_map, nostos_d, fzs_d, List.getElem?_cons_zero, List.getElem?_cons_succ, List.set_cons_zero, List.set_cons_succ, List.length_cons, List.length_nil, Option.bind_some, Option.map_some, if_true, if_false, Bool.false_eq_true, decide_eq_true_eq, true_and, List.length_map, S__law_pick]
    refine .inl ⟨_, rfl, by simp, by decide, fun y hy => ?_⟩
    obtain ⟨s, rfl, hs⟩ := okB_ok (n := 20) (List.all_eq_true.mp (by decide) y hy)
    simp only [dSeq, dNext, dIf, dOrT, dAndT, dNotT, dBl, kBl, dTru, kTru, DL.truD, dOp, dCl, s1, s2, dCons, dNil, dVar, dMov, dC, kLenN, peek, lenW, noDict, lenD, sCmp, sOrd, sEq, kEq, sIn, sIsN, nonW, sInt, sAdd, sMul, sRows, rowD, flat, dsOf, seqW, dRet, dRetN, dDrop, dBrk, dCnt, dAsg, gN, gTp, gsCons, gsNil, DL.gSub, setW, useW, useWs, useD, nosto, nostos, fz, fzs, dCall, dCall0, argsD, argD, dLst, dTup, dIte, dAnd, dOr, dNot, dNeg, dBm, isTy, mApp, sIx, kItem, rowOf, dSl, kSl, dNo, dSo, kInt, kStr, kRepr, kListOf, kIsi, tyN, dFor, dRow, dRng1, dRng2, dComp, wipeE, dYes, dJoin, dJs, dFmt, kFmt, pkS, kI2, kAbs, okq, eqv, okqs, eqvs, kCat, dsOf_map, nostos_d, fzs_d, List.getElem?_cons_zero, List.getElem?_cons_succ, List.set_cons_zero, List.set_cons_succ, List.length_cons, List.length_nil, Option.bind_some, Option.map_some, if_true, if_false, Bool.false_eq_true, decide_eq_true_eq, true_and, List.length_map, clear, flatL, retE]
    exact ⟨_, rfl, hk s hs⟩
theorem p__law_near : ∀ ws k kx, ws.length = 1 → S__law_near ws k kx → t__law_near (retE k) (fun x _ => kx x) (startE N__law_near ws) := by
  rintro ws k kx - ⟨rfl, hk⟩
  rw [se__law_near]
  simp only [t__law_near, t__law_near_0_0, dSeq, dNext, dIf, dOrT, dAndT, dNotT, dBl, kBl, dTru, kTru, DL.truD, dOp, dCl, s1, s2, dCons, dNil, dVar, dMov, dC, kLenN, peek, lenW, noDict, lenD, sCmp, sOrd, sEq, kEq, sIn, sIsN, nonW, sInt, sAdd, sMul, sRows, rowD, flat, dsOf, seqW, dRet, dRetN, dDrop, dBrk, dCnt, dAsg, gN, gTp, gsCons, gsNil, DL.gSub, setW, useW, useWs, useD, nosto, nostos, fz, fzs, dCall, dCall0, argsD, argD, dLst, dTup, dIte, dAnd, dOr, dNot, dNeg, dBm, isTy, mApp, sIx, kItem, rowOf, dSl, kSl, dNo, dSo, kInt, kStr, kRepr, kListOf, kIsi, tyN, dFor, dRow, dRng1, dRng2, dComp, wipeE, dYes, dJoin, dJs, dFmt, kFmt, pkS, kI2, kAbs, okq, eqv, okqs, eqvs, kCat, dsOf_map, nostos_d, fzs_d, List.getElem?_cons_zero, List.getElem?_cons_succ, List.set_cons_zero, List.set_cons_succ, List.length_cons, List.length_nil, Option.bind_some, Option.map_some, if_true, if_false, Bool.false_eq_true, decide_eq_true_eq, true_and, List.length_map, S__law_take, S_take]
  refine ⟨6, rfl, by decide, by decide, fun ch c0 c1 => ?_⟩
  simp only [dSeq, dNext, dIf, dOrT, dAndT, dNotT, dBl, kBl, dTru, kTru, DL.truD, dOp, dCl, s1, s2, dCons, dNil, dVar, dMov, dC, kLenN, peek, lenW, noDict, lenD, sCmp, sOrd, sEq, kEq, sIn, sIsN, nonW, sInt, sAdd, sMul, sRows, rowD, flat, dsOf, seqW, dRet, dRetN, dDrop, dBrk, dCnt, dAsg, gN, gTp, gsCons, gsNil, DL.gSub, setW, useW, useWs, useD, nosto, nostos, fz, fzs, dCall, dCall0, argsD, argD, dLst, dTup, dIte, dAnd, dOr, dNot, dNeg, dBm, isTy, mApp, sIx, kItem, rowOf, dSl, kSl, dNo, dSo, kInt, kStr, kRepr, kListOf, kIsi, tyN, dFor, dRow, dRng1, dRng2, dComp, wipeE, dYes, dJoin, dJs, dFmt, kFmt, pkS, kI2, kAbs, okq, eqv, okqs, eqvs, kCat, dsOf_map, nostos_d, fzs_d, List.getElem?_cons_zero, List.getElem?_cons_succ, List.set_cons_zero, List.set_cons_succ, List.length_cons, List.length_nil, Option.bind_some, Option.map_some, if_true, if_false, Bool.false_eq_true, decide_eq_true_eq, true_and, List.length_map, clear, flatL]
  refine ⟨by decide, ?_⟩
  simp only [t__law_near_0_1, dSeq, dNext, dIf, dOrT, dAndT, dNotT, dBl, kBl, dTru, kTru, DL.truD, dOp, dCl, s1, s2, dCons, dNil, dVar, dMov, dC, kLenN, peek, lenW, noDict, lenD, sCmp, sOrd, sEq, kEq, sIn, sIsN, nonW, sInt, sAdd, sMul, sRows, rowD, flat, dsOf, seqW, dRet, dRetN, dDrop, dBrk, dCnt, dAsg, gN, gTp, gsCons, gsNil, DL.gSub, setW, useW, useWs, useD, nosto, nostos, fz, fzs, dCall, dCall0, argsD, argD, dLst, dTup, dIte, dAnd, dOr, dNot, dNeg, dBm, isTy, mApp, sIx, kItem, rowOf, dSl, kSl, dNo, dSo, kInt, kStr, kRepr, kListOf, kIsi, tyN, dFor, dRow, dRng1, dRng2, dComp, wipeE, dYes, dJoin, dJs, dFmt, kFmt, pkS, kI2, kAbs, okq, eqv, okqs, eqvs, kCat, dsOf_map, nostos_d, fzs_d, List.getElem?_cons_zero, List.getElem?_cons_succ, List.set_cons_zero, List.set_cons_succ, List.length_cons, List.length_nil, Option.bind_some, Option.map_some, if_true, if_false, Bool.false_eq_true, decide_eq_true_eq, true_and, List.length_map]
  refine ite_i (fun hi => ?_) (fun hi => ?_)
  · simp only [t__law_near_4_0, dSeq, dNext, dIf, dOrT, dAndT, dNotT, dBl, kBl, dTru, kTru, DL.truD, dOp, dCl, s1, s2, dCons, dNil, dVar, dMov, dC, kLenN, peek, lenW, noDict, lenD, sCmp, sOrd, sEq, kEq, sIn, sIsN, nonW, sInt, sAdd, sMul, sRows, rowD, flat, dsOf, seqW, dRet, dRetN, dDrop, dBrk, dCnt, dAsg, gN, gTp, gsCons, gsNil, DL.gSub, setW, useW, useWs, useD, nosto, nostos, fz, fzs, dCall, dCall0, argsD, argD, dLst, dTup, dIte, dAnd, dOr, dNot, dNeg, dBm, isTy, mApp, sIx, kItem, rowOf, dSl, kSl, dNo, dSo, kInt, kStr, kRepr, kListOf, kIsi, tyN, dFor, dRow, dRng1, dRng2, dComp, wipeE, dYes, dJoin, dJs, dFmt, kFmt, pkS, kI2, kAbs, okq, eqv, okqs, eqvs, kCat, dsOf_map, nostos_d, fzs_d, List.getElem?_cons_zero, List.getElem?_cons_succ, List.set_cons_zero, List.set_cons_succ, List.length_cons, List.length_nil, Option.bind_some, Option.map_some, if_true, if_false, Bool.false_eq_true, decide_eq_true_eq, true_and, List.length_map, S__law_digits]
    intro s hs
    simp only [dSeq, dNext, dIf, dOrT, dAndT, dNotT, dBl, kBl, dTru, kTru, DL.truD, dOp, dCl, s1, s2, dCons, dNil, dVar, dMov, dC, kLenN, peek, lenW, noDict, lenD, sCmp, sOrd, sEq, kEq, sIn, sIsN, nonW, sInt, sAdd, sMul, sRows, rowD, flat, dsOf, seqW, dRet, dRetN, dDrop, dBrk, dCnt, dAsg, gN, gTp, gsCons, gsNil, DL.gSub, setW, useW, useWs, useD, nosto, nostos, fz, fzs, dCall, dCall0, argsD, argD, dLst, dTup, dIte, dAnd, dOr, dNot, dNeg, dBm, isTy, mApp, sIx, kItem, rowOf, dSl, kSl, dNo, dSo, kInt, kStr, kRepr, kListOf, kIsi, tyN, dFor, dRow, dRng1, dRng2, dComp, wipeE, dYes, dJoin, dJs, dFmt, kFmt, pkS, kI2, kAbs, okq, eqv, okqs, eqvs, kCat, dsOf_map, nostos_d, fzs_d, List.getElem?_cons_zero, List.getElem?_cons_succ, List.set_cons_zero, List.set_cons_succ, List.length_cons, List.length_nil, Option.bind_some, Option.map_some, if_true, if_false, Bool.false_eq_true, decide_eq_true_eq, true_and, List.length_map, clear, flatL, retE]
    exact ⟨_, rfl, hk s (okS_le hs (by decide))⟩
  simp only [t__law_near_0_2, dSeq, dNext, dIf, dOrT, dAndT, dNotT, dBl, kBl, dTru, kTru, DL.truD, dOp, dCl, s1, s2, dCons, dNil, dVar, dMov, dC, kLenN, peek, lenW, noDict, lenD, sCmp, sOrd, sEq, kEq, sIn, sIsN, nonW, sInt, sAdd, sMul, sRows, rowD, flat, dsOf, seqW, dRet, dRetN, dDrop, dBrk, dCnt, dAsg, gN, gTp, gsCons, gsNil, DL.gSub, setW, useW, useWs, useD, nosto, nostos, fz, fzs, dCall, dCall0, argsD, argD, dLst, dTup, dIte, dAnd, dOr, dNot, dNeg, dBm, isTy, mApp, sIx, kItem, rowOf, dSl, kSl, dNo, dSo, kInt, kStr, kRepr, kListOf, kIsi, tyN, dFor, dRow, dRng1, dRng2, dComp, wipeE, dYes, dJoin, dJs, dFmt, kFmt, pkS, kI2, kAbs, okq, eqv, okqs, eqvs, kCat, dsOf_map, nostos_d, fzs_d, List.getElem?_cons_zero, List.getElem?_cons_succ, List.set_cons_zero, List.set_cons_succ, List.length_cons, List.length_nil, Option.bind_some, Option.map_some, if_true, if_false, Bool.false_eq_true, decide_eq_true_eq, true_and, List.length_map, Bool.false_bne]
  refine ite_i (fun hi => ?_) (fun hi => ?_)
  · simp only [t__law_near_3_0, dSeq, dNext, dIf, dOrT, dAndT, dNotT, dBl, kBl, dTru, kTru, DL.truD, dOp, dCl, s1, s2, dCons, dNil, dVar, dMov, dC, kLenN, peek, lenW, noDict, lenD, sCmp, sOrd, sEq, kEq, sIn, sIsN, nonW, sInt, sAdd, sMul, sRows, rowD, flat, dsOf, seqW, dRet, dRetN, dDrop, dBrk, dCnt, dAsg, gN, gTp, gsCons, gsNil, DL.gSub, setW, useW, useWs, useD, nosto, nostos, fz, fzs, dCall, dCall0, argsD, argD, dLst, dTup, dIte, dAnd, dOr, dNot, dNeg, dBm, isTy, mApp, sIx, kItem, rowOf, dSl, kSl, dNo, dSo, kInt, kStr, kRepr, kListOf, kIsi, tyN, dFor, dRow, dRng1, dRng2, dComp, wipeE, dYes, dJoin, dJs, dFmt, kFmt, pkS, kI2, kAbs, okq, eqv, okqs, eqvs, kCat, dsOf_map, nostos_d, fzs_d, List.getElem?_cons_zero, List.getElem?_cons_succ, List.set_cons_zero, List.set_cons_succ, List.length_cons, List.length_nil, Option.bind_some, Option.map_some, if_true, if_false, Bool.false_eq_true, decide_eq_true_eq, true_and, List.length_map, useWs, S__law_pick]
    refine ⟨szl (by decide), by decide, .inl ⟨_, rfl, by simp, by decide, fun y hy => ?_⟩⟩
    obtain ⟨s, rfl, hs⟩ := okB_ok (n := 2) (List.all_eq_true.mp (by decide) y hy)
    simp only [dSeq, dNext, dIf, dOrT, dAndT, dNotT, dBl, kBl, dTru, kTru, DL.truD, dOp, dCl, s1, s2, dCons, dNil, dVar, dMov, dC, kLenN, peek, lenW, noDict, lenD, sCmp, sOrd, sEq, kEq, sIn, sIsN, nonW, sInt, sAdd, sMul, sRows, rowD, flat, dsOf, seqW, dRet, dRetN, dDrop, dBrk, dCnt, dAsg, gN, gTp, gsCons, gsNil, DL.gSub, setW, useW, useWs, useD, nosto, nostos, fz, fzs, dCall, dCall0, argsD, argD, dLst, dTup, dIte, dAnd, dOr, dNot, dNeg, dBm, isTy, mApp, sIx, kItem, rowOf, dSl, kSl, dNo, dSo, kInt, kStr, kRepr, kListOf, kIsi, tyN, dFor, dRow, dRng1, dRng2, dComp, wipeE, dYes, dJoin, dJs, dFmt, kFmt, pkS, kI2, kAbs, okq, eqv, okqs, eqvs, kCat, dsOf_map, nostos_d, fzs_d, List.getElem?_cons_zero, List.getElem?_cons_succ, List.set_cons_zero, List.set_cons_succ, List.length_cons, List.length_nil, Option.bind_some, Option.map_some, if_true, if_false, Bool.false_eq_true, decide_eq_true_eq, true_and, List.length_map, clear, flatL, S__law_digits]
    intro u hu
    simp only [dSeq, dNext, dIf, dOrT, dAndT, dNotT, dBl, kBl, dTru, kTru, DL.truD, dOp, dCl, s1, s2, dCons, dNil, dVar, dMov, dC, kLenN, peek, lenW, noDict, lenD, sCmp, sOrd, sEq, kEq, sIn, sIsN, nonW, sInt, sAdd, sMul, sRows, rowD, flat, dsOf, seqW, dRet, dRetN, dDrop, dBrk, dCnt, dAsg, gN, gTp, gsCons, gsNil, DL.gSub, setW, useW, useWs, useD, nosto, nostos, fz, fzs, dCall, dCall0, argsD, argD, dLst, dTup, dIte, dAnd, dOr, dNot, dNeg, dBm, isTy, mApp, sIx, kItem, rowOf, dSl, kSl, dNo, dSo, kInt, kStr, kRepr, kListOf, kIsi, tyN, dFor, dRow, dRng1, dRng2, dComp, wipeE, dYes, dJoin, dJs, dFmt, kFmt, pkS, kI2, kAbs, okq, eqv, okqs, eqvs, kCat, dsOf_map, nostos_d, fzs_d, List.getElem?_cons_zero, List.getElem?_cons_succ, List.set_cons_zero, List.set_cons_succ, List.length_cons, List.length_nil, Option.bind_some, Option.map_some, if_true, if_false, Bool.false_eq_true, decide_eq_true_eq, true_and, List.length_map, clear, flatL, retE]
    have hz := okS_app hs hu
    have := hz.1
    rw [List.length_append] at this
    exact ⟨szl (by omega), _, rfl, hk _ (okS_le hz (by decide))⟩
  simp only [t__law_near_0_3, dSeq, dNext, dIf, dOrT, dAndT, dNotT, dBl, kBl, dTru, kTru, DL.truD, dOp, dCl, s1, s2, dCons, dNil, dVar, dMov, dC, kLenN, peek, lenW, noDict, lenD, sCmp, sOrd, sEq, kEq, sIn, sIsN, nonW, sInt, sAdd, sMul, sRows, rowD, flat, dsOf, seqW, dRet, dRetN, dDrop, dBrk, dCnt, dAsg, gN, gTp, gsCons, gsNil, DL.gSub, setW, useW, useWs, useD, nosto, nostos, fz, fzs, dCall, dCall0, argsD, argD, dLst, dTup, dIte, dAnd, dOr, dNot, dNeg, dBm, isTy, mApp, sIx, kItem, rowOf, dSl, kSl, dNo, dSo, kInt, kStr, kRepr, kListOf, kIsi, tyN, dFor, dRow, dRng1, dRng2, dComp, wipeE, dYes, dJoin, dJs, dFmt, kFmt, pkS, kI2, kAbs, okq, eqv, okqs, eqvs, kCat, dsOf_map, nostos_d, fzs_d, List.getElem?_cons_zero, List.getElem?_cons_succ, List.set_cons_zero, List.set_cons_succ, List.length_cons, List.length_nil, Option.bind_some, Option.map_some, if_true, if_false, Bool.false_eq_true, decide_eq_true_eq, true_and, List.length_map, Bool.false_bne]
  refine ite_i (fun hi => ?_) (fun hi => ?_)
  · simp only [t__law_near_2_0, dSeq, dNext, dIf, dOrT, dAndT, dNotT, dBl, kBl, dTru, kTru, DL.truD, dOp, dCl, s1, s2, dCons, dNil, dVar, dMov, dC, kLenN, peek, lenW, noDict, lenD, sCmp, sOrd, sEq, kEq, sIn, sIsN, nonW, sInt, sAdd, sMul, sRows, rowD, flat, dsOf, seqW, dRet, dRetN, dDrop, dBrk, dCnt, dAsg, gN, gTp, gsCons, gsNil, DL.gSub, setW, useW, useWs, useD, nosto, nostos, fz, fzs, dCall, dCall0, argsD, argD, dLst, dTup, dIte, dAnd, dOr, dNot, dNeg, dBm, isTy, mApp, sIx, kItem, rowOf, dSl, kSl, dNo, dSo, kInt, kStr, kRepr, kListOf, kIsi, tyN, dFor, dRow, dRng1, dRng2, dComp, wipeE, dYes, dJoin, dJs, dFmt, kFmt, pkS, kI2, kAbs, okq, eqv, okqs, eqvs, kCat, dsOf_map, nostos_d, fzs_d, List.getElem?_cons_zero, List.getElem?_cons_succ, List.set_cons_zero, List.set_cons_succ, List.length_cons, List.length_nil, Option.bind_some, Option.map_some, if_true, if_false, Bool.false_eq_true, decide_eq_true_eq, true_and, List.length_map, S__law_name]
    intro nm n0 hn
    have ln := hn.1
    have lp : 0 < nm.length := List.length_pos_iff.mpr n0
    simp only [dSeq, dNext, dIf, dOrT, dAndT, dNotT, dBl, kBl, dTru, kTru, DL.truD, dOp, dCl, s1, s2, dCons, dNil, dVar, dMov, dC, kLenN, peek, lenW, noDict, lenD, sCmp, sOrd, sEq, kEq, sIn, sIsN, nonW, sInt, sAdd, sMul, sRows, rowD, flat, dsOf, seqW, dRet, dRetN, dDrop, dBrk, dCnt, dAsg, gN, gTp, gsCons, gsNil, DL.gSub, setW, useW, useWs, useD, nosto, nostos, fz, fzs, dCall, dCall0, argsD, argD, dLst, dTup, dIte, dAnd, dOr, dNot, dNeg, dBm, isTy, mApp, sIx, kItem, rowOf, dSl, kSl, dNo, dSo, kInt, kStr, kRepr, kListOf, kIsi, tyN, dFor, dRow, dRng1, dRng2, dComp, wipeE, dYes, dJoin, dJs, dFmt, kFmt, pkS, kI2, kAbs, okq, eqv, okqs, eqvs, kCat, dsOf_map, nostos_d, fzs_d, List.getElem?_cons_zero, List.getElem?_cons_succ, List.set_cons_zero, List.set_cons_succ, List.length_cons, List.length_nil, Option.bind_some, Option.map_some, if_true, if_false, Bool.false_eq_true, decide_eq_true_eq, true_and, List.length_map, clear, flatL]
    refine ⟨by decide, ?_⟩
    simp only [t__law_near_2_1, dSeq, dNext, dIf, dOrT, dAndT, dNotT, dBl, kBl, dTru, kTru, DL.truD, dOp, dCl, s1, s2, dCons, dNil, dVar, dMov, dC, kLenN, peek, lenW, noDict, lenD, sCmp, sOrd, sEq, kEq, sIn, sIsN, nonW, sInt, sAdd, sMul, sRows, rowD, flat, dsOf, seqW, dRet, dRetN, dDrop, dBrk, dCnt, dAsg, gN, gTp, gsCons, gsNil, DL.gSub, setW, useW, useWs, useD, nosto, nostos, fz, fzs, dCall, dCall0, argsD, argD, dLst, dTup, dIte, dAnd, dOr, dNot, dNeg, dBm, isTy, mApp, sIx, kItem, rowOf, dSl, kSl, dNo, dSo, kInt, kStr, kRepr, kListOf, kIsi, tyN, dFor, dRow, dRng1, dRng2, dComp, wipeE, dYes, dJoin, dJs, dFmt, kFmt, pkS, kI2, kAbs, okq, eqv, okqs, eqvs, kCat, dsOf_map, nostos_d, fzs_d, List.getElem?_cons_zero, List.getElem?_cons_succ, List.set_cons_zero, List.set_cons_succ, List.length_cons, List.length_nil, Option.bind_some, Option.map_some, if_true, if_false, Bool.false_eq_true, decide_eq_true_eq, true_and, List.length_map, S__law_take, S_take]
    refine ⟨szl (by omega), _, rfl, by omega, by omega, fun p p0 p1 => ?_⟩
    simp only [dSeq, dNext, dIf, dOrT, dAndT, dNotT, dBl, kBl, dTru, kTru, DL.truD, dOp, dCl, s1, s2, dCons, dNil, dVar, dMov, dC, kLenN, peek, lenW, noDict, lenD, sCmp, sOrd, sEq, kEq, sIn, sIsN, nonW, sInt, sAdd, sMul, sRows, rowD, flat, dsOf, seqW, dRet, dRetN, dDrop, dBrk, dCnt, dAsg, gN, gTp, gsCons, gsNil, DL.gSub, setW, useW, useWs, useD, nosto, nostos, fz, fzs, dCall, dCall0, argsD, argD, dLst, dTup, dIte, dAnd, dOr, dNot, dNeg, dBm, isTy, mApp, sIx, kItem, rowOf, dSl, kSl, dNo, dSo, kInt, kStr, kRepr, kListOf, kIsi, tyN, dFor, dRow, dRng1, dRng2, dComp, wipeE, dYes, dJoin, dJs, dFmt, kFmt, pkS, kI2, kAbs, okq, eqv, okqs, eqvs, kCat, dsOf_map, nostos_d, fzs_d, List.getElem?_cons_zero, List.getElem?_cons_succ, List.set_cons_zero, List.set_cons_succ, List.length_cons, List.length_nil, Option.bind_some, Option.map_some, if_true, if_false, Bool.false_eq_true, decide_eq_true_eq, true_and, List.length_map, clear, flatL]
    refine ⟨by decide, ?_⟩
    simp only [t__law_near_2_2, dSeq, dNext, dIf, dOrT, dAndT, dNotT, dBl, kBl, dTru, kTru, DL.truD, dOp, dCl, s1, s2, dCons, dNil, dVar, dMov, dC, kLenN, peek, lenW, noDict, lenD, sCmp, sOrd, sEq, kEq, sIn, sIsN, nonW, sInt, sAdd, sMul, sRows, rowD, flat, dsOf, seqW, dRet, dRetN, dDrop, dBrk, dCnt, dAsg, gN, gTp, gsCons, gsNil, DL.gSub, setW, useW, useWs, useD, nosto, nostos, fz, fzs, dCall, dCall0, argsD, argD, dLst, dTup, dIte, dAnd, dOr, dNot, dNeg, dBm, isTy, mApp, sIx, kItem, rowOf, dSl, kSl, dNo, dSo, kInt, kStr, kRepr, kListOf, kIsi, tyN, dFor, dRow, dRng1, dRng2, dComp, wipeE, dYes, dJoin, dJs, dFmt, kFmt, pkS, kI2, kAbs, okq, eqv, okqs, eqvs, kCat, dsOf_map, nostos_d, fzs_d, List.getElem?_cons_zero, List.getElem?_cons_succ, List.set_cons_zero, List.set_cons_succ, List.length_cons, List.length_nil, Option.bind_some, Option.map_some, if_true, if_false, Bool.false_eq_true, decide_eq_true_eq, true_and, List.length_map, useWs, S__law_pick]
    refine ⟨szl (by omega), szl (by omega), .inr ⟨_, rfl, by simp, by decide, fun c hc => ?_⟩⟩
    have hc : c < 128 := (by decide : ∀ c ∈ ([65, 49, 95, 32, 122] : List Nat), c < 128) c hc
    have h1 := okS_cut none (some p) hn
    have h2 := okS_app h1 (okS_one hc)
    have h3 := okS_cut (some (p + 1)) none hn
    have hz := okS_app h2 h3
    have ha := okS_app hn (b := [97]) (okS_one (by decide))
    have a1 := h1.1
    have a2 := h2.1
    have a3 := h3.1
    simp only [dSeq, dNext, dIf, dOrT, dAndT, dNotT, dBl, kBl, dTru, kTru, DL.truD, dOp, dCl, s1, s2, dCons, dNil, dVar, dMov, dC, kLenN, peek, lenW, noDict, lenD, sCmp, sOrd, sEq, kEq, sIn, sIsN, nonW, sInt, sAdd, sMul, sRows, rowD, flat, dsOf, seqW, dRet, dRetN, dDrop, dBrk, dCnt, dAsg, gN, gTp, gsCons, gsNil, DL.gSub, setW, useW, useWs, useD, nosto, nostos, fz, fzs, dCall, dCall0, argsD, argD, dLst, dTup, dIte, dAnd, dOr, dNot, dNeg, dBm, isTy, mApp, sIx, kItem, rowOf, dSl, kSl, dNo, dSo, kInt, kStr, kRepr, kListOf, kIsi, tyN, dFor, dRow, dRng1, dRng2, dComp, wipeE, dYes, dJoin, dJs, dFmt, kFmt, pkS, kI2, kAbs, okq, eqv, okqs, eqvs, kCat, dsOf_map, nostos_d, fzs_d, List.getElem?_cons_zero, List.getElem?_cons_succ, List.set_cons_zero, List.set_cons_succ, List.length_cons, List.length_nil, Option.bind_some, Option.map_some, if_true, if_false, Bool.false_eq_true, decide_eq_true_eq, true_and, List.length_map, clear, flatL, useWs, S__law_take, S_take]
    refine ⟨szl (by omega), szl (by omega), szl (by omega), szl (by decide), 3, rfl, by decide, by decide, fun i i0 i1 => ?_⟩
    obtain ⟨x, ex, mx⟩ := at_inL (s := [W.d (.str nm), W.d (.str (nm ++ [97])), W.d (.str (cutL nm none (some p) ++ [c] ++ cutL nm (some (p + 1)) none))]) i0 (by simpa using i1)
    simp only [dSeq, dNext, dIf, dOrT, dAndT, dNotT, dBl, kBl, dTru, kTru, DL.truD, dOp, dCl, s1, s2, dCons, dNil, dVar, dMov, dC, kLenN, peek, lenW, noDict, lenD, sCmp, sOrd, sEq, kEq, sIn, sIsN, nonW, sInt, sAdd, sMul, sRows, rowD, flat, dsOf, seqW, dRet, dRetN, dDrop, dBrk, dCnt, dAsg, gN, gTp, gsCons, gsNil, DL.gSub, setW, useW, useWs, useD, nosto, nostos, fz, fzs, dCall, dCall0, argsD, argD, dLst, dTup, dIte, dAnd, dOr, dNot, dNeg, dBm, isTy, mApp, sIx, kItem, rowOf, dSl, kSl, dNo, dSo, kInt, kStr, kRepr, kListOf, kIsi, tyN, dFor, dRow, dRng1, dRng2, dComp, wipeE, dYes, dJoin, dJs, dFmt, kFmt, pkS, kI2, kAbs, okq, eqv, okqs, eqvs, kCat, dsOf_map, nostos_d, fzs_d, List.getElem?_cons_zero, List.getElem?_cons_succ, List.set_cons_zero, List.set_cons_succ, List.length_cons, List.length_nil, Option.bind_some, Option.map_some, if_true, if_false, Bool.false_eq_true, decide_eq_true_eq, true_and, List.length_map, clear, flatL, ex, retE]
    simp only [List.mem_cons, List.not_mem_nil, or_false] at mx
    rcases mx with rfl | rfl | rfl
    · exact ⟨_, rfl, hk _ (okS_le hn (by decide))⟩
    · exact ⟨_, rfl, hk _ (okS_le ha (by decide))⟩
    · exact ⟨_, rfl, hk _ (okS_le hz (by decide))⟩
  simp only [t__law_near_0_4, dSeq, dNext, dIf, dOrT, dAndT, dNotT, dBl, kBl, dTru, kTru, DL.truD, dOp, dCl, s1, s2, dCons, dNil, dVar, dMov, dC, kLenN, peek, lenW, noDict, lenD, sCmp, sOrd, sEq, kEq, sIn, sIsN, nonW, sInt, sAdd, sMul, sRows, rowD, flat, dsOf, seqW, dRet, dRetN, dDrop, dBrk, dCnt, dAsg, gN, gTp, gsCons, gsNil, DL.gSub, setW, useW, useWs, useD, nosto, nostos, fz, fzs, dCall, dCall0, argsD, argD, dLst, dTup, dIte, dAnd, dOr, dNot, dNeg, dBm, isTy, mApp, sIx, kItem, rowOf, dSl, kSl, dNo, dSo, kInt, kStr, kRepr, kListOf, kIsi, tyN, dFor, dRow, dRng1, dRng2, dComp, wipeE, dYes, dJoin, dJs, dFmt, kFmt, pkS, kI2, kAbs, okq, eqv, okqs, eqvs, kCat, dsOf_map, nostos_d, fzs_d, List.getElem?_cons_zero, List.getElem?_cons_succ, List.set_cons_zero, List.set_cons_succ, List.length_cons, List.length_nil, Option.bind_some, Option.map_some, if_true, if_false, Bool.false_eq_true, decide_eq_true_eq, true_and, List.length_map, Bool.false_bne]
  refine ite_i (fun hi => ?_) (fun hi => ?_)
  · simp only [t__law_near_1_0, dSeq, dNext, dIf, dOrT, dAndT, dNotT, dBl, kBl, dTru, kTru, DL.truD, dOp, dCl, s1, s2, dCons, dNil, dVar, dMov, dC, kLenN, peek, lenW, noDict, lenD, sCmp, sOrd, sEq, kEq, sIn, sIsN, nonW, sInt, sAdd, sMul, sRows, rowD, flat, dsOf, seqW, dRet, dRetN, dDrop, dBrk, dCnt, dAsg, gN, gTp, gsCons, gsNil, DL.gSub, setW, useW, useWs, useD, nosto, nostos, fz, fzs, dCall, dCall0, argsD, argD, dLst, dTup, dIte, dAnd, dOr, dNot, dNeg, dBm, isTy, mApp, sIx, kItem, rowOf, dSl, kSl, dNo, dSo, kInt, kStr, kRepr, kListOf, kIsi, tyN, dFor, dRow, dRng1, dRng2, dComp, wipeE, dYes, dJoin, dJs, dFmt, kFmt, pkS, kI2, kAbs, okq, eqv, okqs, eqvs, kCat, dsOf_map, nostos_d, fzs_d, List.getElem?_cons_zero, List.getElem?_cons_succ, List.set_cons_zero, List.set_cons_succ, List.length_cons, List.length_nil, Option.bind_some, Option.map_some, if_true, if_false, Bool.false_eq_true, decide_eq_true_eq, true_and, List.length_map, S__law_word]
    intro s hs
    simp only [dSeq, dNext, dIf, dOrT, dAndT, dNotT, dBl, kBl, dTru, kTru, DL.truD, dOp, dCl, s1, s2, dCons, dNil, dVar, dMov, dC, kLenN, peek, lenW, noDict, lenD, sCmp, sOrd, sEq, kEq, sIn, sIsN, nonW, sInt, sAdd, sMul, sRows, rowD, flat, dsOf, seqW, dRet, dRetN, dDrop, dBrk, dCnt, dAsg, gN, gTp, gsCons, gsNil, DL.gSub, setW, useW, useWs, useD, nosto, nostos, fz, fzs, dCall, dCall0, argsD, argD, dLst, dTup, dIte, dAnd, dOr, dNot, dNeg, dBm, isTy, mApp, sIx, kItem, rowOf, dSl, kSl, dNo, dSo, kInt, kStr, kRepr, kListOf, kIsi, tyN, dFor, dRow, dRng1, dRng2, dComp, wipeE, dYes, dJoin, dJs, dFmt, kFmt, pkS, kI2, kAbs, okq, eqv, okqs, eqvs, kCat, dsOf_map, nostos_d, fzs_d, List.getElem?_cons_zero, List.getElem?_cons_succ, List.set_cons_zero, List.set_cons_succ, List.length_cons, List.length_nil, Option.bind_some, Option.map_some, if_true, if_false, Bool.false_eq_true, decide_eq_true_eq, true_and, List.length_map, clear, flatL, retE]
    exact ⟨_, rfl, hk s (okS_le hs (by decide))⟩
  · simp only [t__law_near_0_5, dSeq, dNext, dIf, dOrT, dAndT, dNotT, dBl, kBl, dTru, kTru, DL.truD, dOp, dCl, s1, s2, dCons, dNil, dVar, dMov, dC, kLenN, peek, lenW, noDict, lenD, sCmp, sOrd, sEq, kEq, sIn, sIsN, nonW, sInt, sAdd, sMul, sRows, rowD, flat, dsOf, seqW, dRet, dRetN, dDrop, dBrk, dCnt, dAsg, gN, gTp, gsCons, gsNil, DL.gSub, setW, useW, useWs, useD, nosto, nostos, fz, fzs, dCall, dCall0, argsD, argD, dLst, dTup, dIte, dAnd, dOr, dNot, dNeg, dBm, isTy, mApp, sIx, kItem, rowOf, dSl, kSl, dNo, dSo, kInt, kStr, kRepr, kListOf, kIsi, tyN, dFor, dRow, dRng1, dRng2, dComp, wipeE, dYes, dJoin, dJs, dFmt, kFmt, pkS, kI2, kAbs, okq, eqv, okqs, eqvs, kCat, dsOf_map, nostos_d, fzs_d, List.getElem?_cons_zero, List.getElem?_cons_succ, List.set_cons_zero, List.set_cons_succ, List.length_cons, List.length_nil, Option.bind_some, Option.map_some, if_true, if_false, Bool.false_eq_true, decide_eq_true_eq, true_and, List.length_map, S__law_pick]
    refine .inr ⟨_, rfl, by simp, by decide, fun c hc => ?_⟩
    have hc : c < 128 := (by decide : ∀ c ∈ ([48, 49, 50, 51, 52, 53, 54, 55, 56, 57, 45, 45] : List Nat), c < 128) c hc
    simp only [dSeq, dNext, dIf, dOrT, dAndT, dNotT, dBl, kBl, dTru, kTru, DL.truD, dOp, dCl, s1, s2, dCons, dNil, dVar, dMov, dC, kLenN, peek, lenW, noDict, lenD, sCmp, sOrd, sEq, kEq, sIn, sIsN, nonW, sInt, sAdd, sMul, sRows, rowD, flat, dsOf, seqW, dRet, dRetN, dDrop, dBrk, dCnt, dAsg, gN, gTp, gsCons, gsNil, DL.gSub, setW, useW, useWs, useD, nosto, nostos, fz, fzs, dCall, dCall0, argsD, argD, dLst, dTup, dIte, dAnd, dOr, dNot, dNeg, dBm, isTy, mApp, sIx, kItem, rowOf, dSl, kSl, dNo, dSo, kInt, kStr, kRepr, kListOf, kIsi, tyN, dFor, dRow, dRng1, dRng2, dComp, wipeE, dYes, dJoin, dJs, dFmt, kFmt, pkS, kI2, kAbs, okq, eqv, okqs, eqvs, kCat, dsOf_map, nostos_d, fzs_d, List.getElem?_cons_zero, List.getElem?_cons_succ, List.set_cons_zero, List.set_cons_succ, List.length_cons, List.length_nil, Option.bind_some, Option.map_some, if_true, if_false, Bool.false_eq_true, decide_eq_true_eq, true_and, List.length_map, clear, flatL, retE]
    exact ⟨_, rfl, hk _ (okS_le (okS_one hc) (by decide))⟩
theorem all_map_d {α : Type} {f : α → D} : ∀ {xs : List α}, fzs (xs.map fun x => W.d (f x)) = xs.map f := fzs_map
theorem p__law_words : ∀ ws k kx, ws.length = 1 → S__law_words ws k kx → t__law_words (retE k) (fun x _ => kx x) (startE N__law_words ws) := by
  rintro ws k kx - ⟨rfl, hk⟩
  rw [se__law_words]
  have fin : ∀ (ss : List (List Nat)) m o, ss.length ≤ 1000 → (∀ s ∈ ss, okS s 60) → t__law_words_0_4 (retE k) (fun x _ => kx x) [some .sto, some (.d (.int m)), some (strW ss), o] := fun ss m o h1 h2 => by
    simp only [t__law_words_0_4, dSeq, dNext, dIf, dOrT, dAndT, dNotT, dBl, kBl, dTru, kTru, DL.truD, dOp, dCl, s1, s2, dCons, dNil, dVar, dMov, dC, kLenN, peek, lenW, noDict, lenD, sCmp, sOrd, sEq, kEq, sIn, sIsN, nonW, sInt, sAdd, sMul, sRows, rowD, flat, dsOf, seqW, dRet, dRetN, dDrop, dBrk, dCnt, dAsg, gN, gTp, gsCons, gsNil, DL.gSub, setW, useW, useWs, useD, nosto, nostos, fz, fzs, dCall, dCall0, argsD, argD, dLst, dTup, dIte, dAnd, dOr, dNot, dNeg, dBm, isTy, mApp, sIx, kItem, rowOf, dSl, kSl, dNo, dSo, kInt, kStr, kRepr, kListOf, kIsi, tyN, dFor, dRow, dRng1, dRng2, dComp, wipeE, dYes, dJoin, dJs, dFmt, kFmt, pkS, kI2, kAbs, okq, eqv, okqs, eqvs, kCat, dsOf_map, nostos_d, fzs_d, List.getElem?_cons_zero, List.getElem?_cons_succ, List.set_cons_zero, List.set_cons_succ, List.length_cons, List.length_nil, Option.bind_some, Option.map_some, if_true, if_false, Bool.false_eq_true, decide_eq_true_eq, true_and, List.length_map, strW, retE]
    exact ⟨_, rfl, hk ss h1 h2⟩
  have main : ∀ m : Int, 0 ≤ m → m ≤ 1000 → t__law_words_0_2 (retE k) (fun x _ => kx x) [some .sto, some (.d (.int m)), none, none] := fun m m0 m1 => by
    simp only [t__law_words_0_2, dSeq, dNext, dIf, dOrT, dAndT, dNotT, dBl, kBl, dTru, kTru, DL.truD, dOp, dCl, s1, s2, dCons, dNil, dVar, dMov, dC, kLenN, peek, lenW, noDict, lenD, sCmp, sOrd, sEq, kEq, sIn, sIsN, nonW, sInt, sAdd, sMul, sRows, rowD, flat, dsOf, seqW, dRet, dRetN, dDrop, dBrk, dCnt, dAsg, gN, gTp, gsCons, gsNil, DL.gSub, setW, useW, useWs, useD, nosto, nostos, fz, fzs, dCall, dCall0, argsD, argD, dLst, dTup, dIte, dAnd, dOr, dNot, dNeg, dBm, isTy, mApp, sIx, kItem, rowOf, dSl, kSl, dNo, dSo, kInt, kStr, kRepr, kListOf, kIsi, tyN, dFor, dRow, dRng1, dRng2, dComp, wipeE, dYes, dJoin, dJs, dFmt, kFmt, pkS, kI2, kAbs, okq, eqv, okqs, eqvs, kCat, dsOf_map, nostos_d, fzs_d, List.getElem?_cons_zero, List.getElem?_cons_succ, List.set_cons_zero, List.set_cons_succ, List.length_cons, List.length_nil, Option.bind_some, Option.map_some, if_true, if_false, Bool.false_eq_true, decide_eq_true_eq, true_and, List.length_map]
    refine ⟨⟨by omega, by omega⟩, ?_⟩
    refine compL_any (fun y => ∃ s, okS s 60 ∧ y = .d (.str s)) (fun w hw acc K hK ha => ?_) (by rw [rangeW_len]; exact szl (by simp; omega)) (fun ys ly hy => ?_)
    · simp only [compStep, dSeq, dNext, dIf, dOrT, dAndT, dNotT, dBl, kBl, dTru, kTru, DL.truD, dOp, dCl, s1, s2, dCons, dNil, dVar, dMov, dC, kLenN, peek, lenW, noDict, lenD, sCmp, sOrd, sEq, kEq, sIn, sIsN, nonW, sInt, sAdd, sMul, sRows, rowD, flat, dsOf, seqW, dRet, dRetN, dDrop, dBrk, dCnt, dAsg, gN, gTp, gsCons, gsNil, DL.gSub, setW, useW, useWs, useD, nosto, nostos, fz, fzs, dCall, dCall0, argsD, argD, dLst, dTup, dIte, dAnd, dOr, dNot, dNeg, dBm, isTy, mApp, sIx, kItem, rowOf, dSl, kSl, dNo, dSo, kInt, kStr, kRepr, kListOf, kIsi, tyN, dFor, dRow, dRng1, dRng2, dComp, wipeE, dYes, dJoin, dJs, dFmt, kFmt, pkS, kI2, kAbs, okq, eqv, okqs, eqvs, kCat, dsOf_map, nostos_d, fzs_d, List.getElem?_cons_zero, List.getElem?_cons_succ, List.set_cons_zero, List.set_cons_succ, List.length_cons, List.length_nil, Option.bind_some, Option.map_some, if_true, if_false, Bool.false_eq_true, decide_eq_true_eq, true_and, List.length_map, S__law_pick]
      refine ⟨by decide, .inr ⟨_, rfl, by simp, by decide, fun c hc => ?_⟩⟩
      have hc : c < 128 := (by decide : ∀ c ∈ ([48, 49, 50, 51, 52, 53, 54, 55, 56, 57, 45] : List Nat), c < 128) c hc
      simp only [dSeq, dNext, dIf, dOrT, dAndT, dNotT, dBl, kBl, dTru, kTru, DL.truD, dOp, dCl, s1, s2, dCons, dNil, dVar, dMov, dC, kLenN, peek, lenW, noDict, lenD, sCmp, sOrd, sEq, kEq, sIn, sIsN, nonW, sInt, sAdd, sMul, sRows, rowD, flat, dsOf, seqW, dRet, dRetN, dDrop, dBrk, dCnt, dAsg, gN, gTp, gsCons, gsNil, DL.gSub, setW, useW, useWs, useD, nosto, nostos, fz, fzs, dCall, dCall0, argsD, argD, dLst, dTup, dIte, dAnd, dOr, dNot, dNeg, dBm, isTy, mApp, sIx, kItem, rowOf, dSl, kSl, dNo, dSo, kInt, kStr, kRepr, kListOf, kIsi, tyN, dFor, dRow, dRng1, dRng2, dComp, wipeE, dYes, dJoin, dJs, dFmt, kFmt, pkS, kI2, kAbs, okq, eqv, okqs, eqvs, kCat, dsOf_map, nostos_d, fzs_d, List.getElem?_cons_zero, List.getElem?_cons_succ, List.set_cons_zero, List.set_cons_succ, List.length_cons, List.length_nil, Option.bind_some, Option.map_some, if_true, if_false, Bool.false_eq_true, decide_eq_true_eq, true_and, List.length_map, clear, flatL]
      exact ⟨ha, hK _ ⟨[c], okS_le (okS_one hc) (by decide), rfl⟩⟩
    obtain ⟨ss, rfl, hs⟩ := choose_map hy
    rw [List.length_map, rangeW_len] at ly
    rw [List.nil_append]
    simp only [dSeq, dNext, dIf, dOrT, dAndT, dNotT, dBl, kBl, dTru, kTru, DL.truD, dOp, dCl, s1, s2, dCons, dNil, dVar, dMov, dC, kLenN, peek, lenW, noDict, lenD, sCmp, sOrd, sEq, kEq, sIn, sIsN, nonW, sInt, sAdd, sMul, sRows, rowD, flat, dsOf, seqW, dRet, dRetN, dDrop, dBrk, dCnt, dAsg, gN, gTp, gsCons, gsNil, DL.gSub, setW, useW, useWs, useD, nosto, nostos, fz, fzs, dCall, dCall0, argsD, argD, dLst, dTup, dIte, dAnd, dOr, dNot, dNeg, dBm, isTy, mApp, sIx, kItem, rowOf, dSl, kSl, dNo, dSo, kInt, kStr, kRepr, kListOf, kIsi, tyN, dFor, dRow, dRng1, dRng2, dComp, wipeE, dYes, dJoin, dJs, dFmt, kFmt, pkS, kI2, kAbs, okq, eqv, okqs, eqvs, kCat, dsOf_map, nostos_d, fzs_d, List.getElem?_cons_zero, List.getElem?_cons_succ, List.set_cons_zero, List.set_cons_succ, List.length_cons, List.length_nil, Option.bind_some, Option.map_some, if_true, if_false, Bool.false_eq_true, decide_eq_true_eq, true_and, List.length_map, nostos_map]
    refine ⟨by decide, ?_⟩
    have ls : ss.length ≤ 1000 := by omega
    simp only [t__law_words_0_3, dSeq, dNext, dIf, dOrT, dAndT, dNotT, dBl, kBl, dTru, kTru, DL.truD, dOp, dCl, s1, s2, dCons, dNil, dVar, dMov, dC, kLenN, peek, lenW, noDict, lenD, sCmp, sOrd, sEq, kEq, sIn, sIsN, nonW, sInt, sAdd, sMul, sRows, rowD, flat, dsOf, seqW, dRet, dRetN, dDrop, dBrk, dCnt, dAsg, gN, gTp, gsCons, gsNil, DL.gSub, setW, useW, useWs, useD, nosto, nostos, fz, fzs, dCall, dCall0, argsD, argD, dLst, dTup, dIte, dAnd, dOr, dNot, dNeg, dBm, isTy, mApp, sIx, kItem, rowOf, dSl, kSl, dNo, dSo, kInt, kStr, kRepr, kListOf, kIsi, tyN, dFor, dRow, dRng1, dRng2, dComp, wipeE, dYes, dJoin, dJs, dFmt, kFmt, pkS, kI2, kAbs, okq, eqv, okqs, eqvs, kCat, dsOf_map, nostos_d, fzs_d, List.getElem?_cons_zero, List.getElem?_cons_succ, List.set_cons_zero, List.set_cons_succ, List.length_cons, List.length_nil, Option.bind_some, Option.map_some, if_true, if_false, Bool.false_eq_true, decide_eq_true_eq, true_and, List.length_map]
    refine ite_i (fun h0 => ?_) (fun h0 => fin ss _ _ ls hs)
    simp only [S__law_take, S_take]
    refine ⟨2, rfl, by decide, by decide, fun i i0 i1 => ?_⟩
    simp only [dSeq, dNext, dIf, dOrT, dAndT, dNotT, dBl, kBl, dTru, kTru, DL.truD, dOp, dCl, s1, s2, dCons, dNil, dVar, dMov, dC, kLenN, peek, lenW, noDict, lenD, sCmp, sOrd, sEq, kEq, sIn, sIsN, nonW, sInt, sAdd, sMul, sRows, rowD, flat, dsOf, seqW, dRet, dRetN, dDrop, dBrk, dCnt, dAsg, gN, gTp, gsCons, gsNil, DL.gSub, setW, useW, useWs, useD, nosto, nostos, fz, fzs, dCall, dCall0, argsD, argD, dLst, dTup, dIte, dAnd, dOr, dNot, dNeg, dBm, isTy, mApp, sIx, kItem, rowOf, dSl, kSl, dNo, dSo, kInt, kStr, kRepr, kListOf, kIsi, tyN, dFor, dRow, dRng1, dRng2, dComp, wipeE, dYes, dJoin, dJs, dFmt, kFmt, pkS, kI2, kAbs, okq, eqv, okqs, eqvs, kCat, dsOf_map, nostos_d, fzs_d, List.getElem?_cons_zero, List.getElem?_cons_succ, List.set_cons_zero, List.set_cons_succ, List.length_cons, List.length_nil, Option.bind_some, Option.map_some, if_true, if_false, Bool.false_eq_true, decide_eq_true_eq, true_and, List.length_map, clear, flatL, Bool.false_bne]
    refine ite_i (fun hi => ?_) (fun hi => fin ss _ _ ls hs)
    simp only [t__law_words_1_0, dSeq, dNext, dIf, dOrT, dAndT, dNotT, dBl, kBl, dTru, kTru, DL.truD, dOp, dCl, s1, s2, dCons, dNil, dVar, dMov, dC, kLenN, peek, lenW, noDict, lenD, sCmp, sOrd, sEq, kEq, sIn, sIsN, nonW, sInt, sAdd, sMul, sRows, rowD, flat, dsOf, seqW, dRet, dRetN, dDrop, dBrk, dCnt, dAsg, gN, gTp, gsCons, gsNil, DL.gSub, setW, useW, useWs, useD, nosto, nostos, fz, fzs, dCall, dCall0, argsD, argD, dLst, dTup, dIte, dAnd, dOr, dNot, dNeg, dBm, isTy, mApp, sIx, kItem, rowOf, dSl, kSl, dNo, dSo, kInt, kStr, kRepr, kListOf, kIsi, tyN, dFor, dRow, dRng1, dRng2, dComp, wipeE, dYes, dJoin, dJs, dFmt, kFmt, pkS, kI2, kAbs, okq, eqv, okqs, eqvs, kCat, dsOf_map, nostos_d, fzs_d, List.getElem?_cons_zero, List.getElem?_cons_succ, List.set_cons_zero, List.set_cons_succ, List.length_cons, List.length_nil, Option.bind_some, Option.map_some, if_true, if_false, Bool.false_eq_true, decide_eq_true_eq, true_and, List.length_map, S__law_take, S_take]
    refine ⟨2, rfl, by decide, by decide, fun i i0 i1 => ?_⟩
    simp only [dSeq, dNext, dIf, dOrT, dAndT, dNotT, dBl, kBl, dTru, kTru, DL.truD, dOp, dCl, s1, s2, dCons, dNil, dVar, dMov, dC, kLenN, peek, lenW, noDict, lenD, sCmp, sOrd, sEq, kEq, sIn, sIsN, nonW, sInt, sAdd, sMul, sRows, rowD, flat, dsOf, seqW, dRet, dRetN, dDrop, dBrk, dCnt, dAsg, gN, gTp, gsCons, gsNil, DL.gSub, setW, useW, useWs, useD, nosto, nostos, fz, fzs, dCall, dCall0, argsD, argD, dLst, dTup, dIte, dAnd, dOr, dNot, dNeg, dBm, isTy, mApp, sIx, kItem, rowOf, dSl, kSl, dNo, dSo, kInt, kStr, kRepr, kListOf, kIsi, tyN, dFor, dRow, dRng1, dRng2, dComp, wipeE, dYes, dJoin, dJs, dFmt, kFmt, pkS, kI2, kAbs, okq, eqv, okqs, eqvs, kCat, dsOf_map, nostos_d, fzs_d, List.getElem?_cons_zero, List.getElem?_cons_succ, List.set_cons_zero, List.set_cons_succ, List.length_cons, List.length_nil, Option.bind_some, Option.map_some, if_true, if_false, Bool.false_eq_true, decide_eq_true_eq, true_and, List.length_map, clear, flatL]
    refine ⟨⟨by omega, by omega⟩, ?_⟩
    refine forL_ind (fun r env => ∃ (ss : List (List Nat)) (o : Option W), env = [some .sto, some (.d (.int m)), some (strW ss), o] ∧ ss.length = m.toNat ∧ ∀ s ∈ ss, okS s 60) (fun w r env K h hK => ?_) ⟨ss, none, rfl, ly, hs⟩ (fun e h => ?_)
    · obtain ⟨ss, o, rfl, ls, hs⟩ := h
      simp only [t__law_words_2_0, dSeq, dNext, dIf, dOrT, dAndT, dNotT, dBl, kBl, dTru, kTru, DL.truD, dOp, dCl, s1, s2, dCons, dNil, dVar, dMov, dC, kLenN, peek, lenW, noDict, lenD, sCmp, sOrd, sEq, kEq, sIn, sIsN, nonW, sInt, sAdd, sMul, sRows, rowD, flat, dsOf, seqW, dRet, dRetN, dDrop, dBrk, dCnt, dAsg, gN, gTp, gsCons, gsNil, DL.gSub, setW, useW, useWs, useD, nosto, nostos, fz, fzs, dCall, dCall0, argsD, argD, dLst, dTup, dIte, dAnd, dOr, dNot, dNeg, dBm, isTy, mApp, sIx, kItem, rowOf, dSl, kSl, dNo, dSo, kInt, kStr, kRepr, kListOf, kIsi, tyN, dFor, dRow, dRng1, dRng2, dComp, wipeE, dYes, dJoin, dJs, dFmt, kFmt, pkS, kI2, kAbs, okq, eqv, okqs, eqvs, kCat, dsOf_map, nostos_d, fzs_d, List.getElem?_cons_zero, List.getElem?_cons_succ, List.set_cons_zero, List.set_cons_succ, List.length_cons, List.length_nil, Option.bind_some, Option.map_some, if_true, if_false, Bool.false_eq_true, decide_eq_true_eq, true_and, List.length_map, strW, S__law_near]
      refine ⟨by decide, fun s hs2 => ?_⟩
      simp only [dSeq, dNext, dIf, dOrT, dAndT, dNotT, dBl, kBl, dTru, kTru, DL.truD, dOp, dCl, s1, s2, dCons, dNil, dVar, dMov, dC, kLenN, peek, lenW, noDict, lenD, sCmp, sOrd, sEq, kEq, sIn, sIsN, nonW, sInt, sAdd, sMul, sRows, rowD, flat, dsOf, seqW, dRet, dRetN, dDrop, dBrk, dCnt, dAsg, gN, gTp, gsCons, gsNil, DL.gSub, setW, useW, useWs, useD, nosto, nostos, fz, fzs, dCall, dCall0, argsD, argD, dLst, dTup, dIte, dAnd, dOr, dNot, dNeg, dBm, isTy, mApp, sIx, kItem, rowOf, dSl, kSl, dNo, dSo, kInt, kStr, kRepr, kListOf, kIsi, tyN, dFor, dRow, dRng1, dRng2, dComp, wipeE, dYes, dJoin, dJs, dFmt, kFmt, pkS, kI2, kAbs, okq, eqv, okqs, eqvs, kCat, dsOf_map, nostos_d, fzs_d, List.getElem?_cons_zero, List.getElem?_cons_succ, List.set_cons_zero, List.set_cons_succ, List.length_cons, List.length_nil, Option.bind_some, Option.map_some, if_true, if_false, Bool.false_eq_true, decide_eq_true_eq, true_and, List.length_map, clear, flatL, S__law_take, S_take]
      refine ⟨m, rfl, by omega, by omega, fun p p0 p1 => ?_⟩
      have ip : L2.ixN ss.length p = some p.toNat := by
        unfold L2.ixN
        rw [if_pos p0, if_pos (by omega)]
      simp only [dSeq, dNext, dIf, dOrT, dAndT, dNotT, dBl, kBl, dTru, kTru, DL.truD, dOp, dCl, s1, s2, dCons, dNil, dVar, dMov, dC, kLenN, peek, lenW, noDict, lenD, sCmp, sOrd, sEq, kEq, sIn, sIsN, nonW, sInt, sAdd, sMul, sRows, rowD, flat, dsOf, seqW, dRet, dRetN, dDrop, dBrk, dCnt, dAsg, gN, gTp, gsCons, gsNil, DL.gSub, setW, useW, useWs, useD, nosto, nostos, fz, fzs, dCall, dCall0, argsD, argD, dLst, dTup, dIte, dAnd, dOr, dNot, dNeg, dBm, isTy, mApp, sIx, kItem, rowOf, dSl, kSl, dNo, dSo, kInt, kStr, kRepr, kListOf, kIsi, tyN, dFor, dRow, dRng1, dRng2, dComp, wipeE, dYes, dJoin, dJs, dFmt, kFmt, pkS, kI2, kAbs, okq, eqv, okqs, eqvs, kCat, dsOf_map, nostos_d, fzs_d, List.getElem?_cons_zero, List.getElem?_cons_succ, List.set_cons_zero, List.set_cons_succ, List.length_cons, List.length_nil, Option.bind_some, Option.map_some, if_true, if_false, Bool.false_eq_true, decide_eq_true_eq, true_and, List.length_map, clear, flatL, ip]
      refine hK _ ⟨ss.set p.toNat s, some w, ?_, by rw [List.length_set]; exact ls, fun t m => ?_⟩
      · unfold strW
        rw [List.map_set]
      · rcases List.mem_or_eq_of_mem_set m with m | rfl
        · exact hs t m
        · exact hs2
    · obtain ⟨ss, o, rfl, ls, hs⟩ := h
      exact fin ss _ _ (by omega) hs
  simp only [t__law_words, t__law_words_0_0, dSeq, dNext, dIf, dOrT, dAndT, dNotT, dBl, kBl, dTru, kTru, DL.truD, dOp, dCl, s1, s2, dCons, dNil, dVar, dMov, dC, kLenN, peek, lenW, noDict, lenD, sCmp, sOrd, sEq, kEq, sIn, sIsN, nonW, sInt, sAdd, sMul, sRows, rowD, flat, dsOf, seqW, dRet, dRetN, dDrop, dBrk, dCnt, dAsg, gN, gTp, gsCons, gsNil, DL.gSub, setW, useW, useWs, useD, nosto, nostos, fz, fzs, dCall, dCall0, argsD, argD, dLst, dTup, dIte, dAnd, dOr, dNot, dNeg, dBm, isTy, mApp, sIx, kItem, rowOf, dSl, kSl, dNo, dSo, kInt, kStr, kRepr, kListOf, kIsi, tyN, dFor, dRow, dRng1, dRng2, dComp, wipeE, dYes, dJoin, dJs, dFmt, kFmt, pkS, kI2, kAbs, okq, eqv, okqs, eqvs, kCat, dsOf_map, nostos_d, fzs_d, List.getElem?_cons_zero, List.getElem?_cons_succ, List.set_cons_zero, List.set_cons_succ, List.length_cons, List.length_nil, Option.bind_some, Option.map_some, if_true, if_false, Bool.false_eq_true, decide_eq_true_eq, true_and, List.length_map, S__law_between]
  refine ⟨0, 12, rfl, by decide, by decide, fun i i0 i1 => ?_⟩
  simp only [dSeq, dNext, dIf, dOrT, dAndT, dNotT, dBl, kBl, dTru, kTru, DL.truD, dOp, dCl, s1, s2, dCons, dNil, dVar, dMov, dC, kLenN, peek, lenW, noDict, lenD, sCmp, sOrd, sEq, kEq, sIn, sIsN, nonW, sInt, sAdd, sMul, sRows, rowD, flat, dsOf, seqW, dRet, dRetN, dDrop, dBrk, dCnt, dAsg, gN, gTp, gsCons, gsNil, DL.gSub, setW, useW, useWs, useD, nosto, nostos, fz, fzs, dCall, dCall0, argsD, argD, dLst, dTup, dIte, dAnd, dOr, dNot, dNeg, dBm, isTy, mApp, sIx, kItem, rowOf, dSl, kSl, dNo, dSo, kInt, kStr, kRepr, kListOf, kIsi, tyN, dFor, dRow, dRng1, dRng2, dComp, wipeE, dYes, dJoin, dJs, dFmt, kFmt, pkS, kI2, kAbs, okq, eqv, okqs, eqvs, kCat, dsOf_map, nostos_d, fzs_d, List.getElem?_cons_zero, List.getElem?_cons_succ, List.set_cons_zero, List.set_cons_succ, List.length_cons, List.length_nil, Option.bind_some, Option.map_some, if_true, if_false, Bool.false_eq_true, decide_eq_true_eq, true_and, List.length_map, clear, flatL]
  refine ⟨by decide, ?_⟩
  simp only [t__law_words_0_1, dSeq, dNext, dIf, dOrT, dAndT, dNotT, dBl, kBl, dTru, kTru, DL.truD, dOp, dCl, s1, s2, dCons, dNil, dVar, dMov, dC, kLenN, peek, lenW, noDict, lenD, sCmp, sOrd, sEq, kEq, sIn, sIsN, nonW, sInt, sAdd, sMul, sRows, rowD, flat, dsOf, seqW, dRet, dRetN, dDrop, dBrk, dCnt, dAsg, gN, gTp, gsCons, gsNil, DL.gSub, setW, useW, useWs, useD, nosto, nostos, fz, fzs, dCall, dCall0, argsD, argD, dLst, dTup, dIte, dAnd, dOr, dNot, dNeg, dBm, isTy, mApp, sIx, kItem, rowOf, dSl, kSl, dNo, dSo, kInt, kStr, kRepr, kListOf, kIsi, tyN, dFor, dRow, dRng1, dRng2, dComp, wipeE, dYes, dJoin, dJs, dFmt, kFmt, pkS, kI2, kAbs, okq, eqv, okqs, eqvs, kCat, dsOf_map, nostos_d, fzs_d, List.getElem?_cons_zero, List.getElem?_cons_succ, List.set_cons_zero, List.set_cons_succ, List.length_cons, List.length_nil, Option.bind_some, Option.map_some, if_true, if_false, Bool.false_eq_true, decide_eq_true_eq, true_and, List.length_map, S__law_take, S_take]
  refine ⟨12, rfl, by decide, by decide, fun j j0 j1 => ?_⟩
  simp only [dSeq, dNext, dIf, dOrT, dAndT, dNotT, dBl, kBl, dTru, kTru, DL.truD, dOp, dCl, s1, s2, dCons, dNil, dVar, dMov, dC, kLenN, peek, lenW, noDict, lenD, sCmp, sOrd, sEq, kEq, sIn, sIsN, nonW, sInt, sAdd, sMul, sRows, rowD, flat, dsOf, seqW, dRet, dRetN, dDrop, dBrk, dCnt, dAsg, gN, gTp, gsCons, gsNil, DL.gSub, setW, useW, useWs, useD, nosto, nostos, fz, fzs, dCall, dCall0, argsD, argD, dLst, dTup, dIte, dAnd, dOr, dNot, dNeg, dBm, isTy, mApp, sIx, kItem, rowOf, dSl, kSl, dNo, dSo, kInt, kStr, kRepr, kListOf, kIsi, tyN, dFor, dRow, dRng1, dRng2, dComp, wipeE, dYes, dJoin, dJs, dFmt, kFmt, pkS, kI2, kAbs, okq, eqv, okqs, eqvs, kCat, dsOf_map, nostos_d, fzs_d, List.getElem?_cons_zero, List.getElem?_cons_succ, List.set_cons_zero, List.set_cons_succ, List.length_cons, List.length_nil, Option.bind_some, Option.map_some, if_true, if_false, Bool.false_eq_true, decide_eq_true_eq, true_and, List.length_map, clear, flatL, Bool.false_bne]
  refine ite_i (fun hi => ?_) (fun hi => main i i0 (by omega))
  simp only [t__law_words_3_0, dSeq, dNext, dIf, dOrT, dAndT, dNotT, dBl, kBl, dTru, kTru, DL.truD, dOp, dCl, s1, s2, dCons, dNil, dVar, dMov, dC, kLenN, peek, lenW, noDict, lenD, sCmp, sOrd, sEq, kEq, sIn, sIsN, nonW, sInt, sAdd, sMul, sRows, rowD, flat, dsOf, seqW, dRet, dRetN, dDrop, dBrk, dCnt, dAsg, gN, gTp, gsCons, gsNil, DL.gSub, setW, useW, useWs, useD, nosto, nostos, fz, fzs, dCall, dCall0, argsD, argD, dLst, dTup, dIte, dAnd, dOr, dNot, dNeg, dBm, isTy, mApp, sIx, kItem, rowOf, dSl, kSl, dNo, dSo, kInt, kStr, kRepr, kListOf, kIsi, tyN, dFor, dRow, dRng1, dRng2, dComp, wipeE, dYes, dJoin, dJs, dFmt, kFmt, pkS, kI2, kAbs, okq, eqv, okqs, eqvs, kCat, dsOf_map, nostos_d, fzs_d, List.getElem?_cons_zero, List.getElem?_cons_succ, List.set_cons_zero, List.set_cons_succ, List.length_cons, List.length_nil, Option.bind_some, Option.map_some, if_true, if_false, Bool.false_eq_true, decide_eq_true_eq, true_and, List.length_map]
  exact ⟨by decide, main 1000 (by decide) (by decide)⟩
theorem p__law_line : ∀ ws k kx, ws.length = 1 → S__law_line ws k kx → t__law_line (retE k) (fun x _ => kx x) (startE N__law_line ws) := by
  rintro ws k kx - ⟨rfl, hk⟩
  rw [se__law_line]
  have main : ∀ m : Int, 0 ≤ m → m ≤ 4001 → t__law_line_0_2 (retE k) (fun x _ => kx x) [some .sto, some (.d (.int m)), none, none, none] := fun m m0 m1 => by
    simp only [t__law_line_0_2, dSeq, dNext, dIf, dOrT, dAndT, dNotT, dBl, kBl, dTru, kTru, DL.truD, dOp, dCl, s1, s2, dCons, dNil, dVar, dMov, dC, kLenN, peek, lenW, noDict, lenD, sCmp, sOrd, sEq, kEq, sIn, sIsN, nonW, sInt, sAdd, sMul, sRows, rowD, flat, dsOf, seqW, dRet, dRetN, dDrop, dBrk, dCnt, dAsg, gN, gTp, gsCons, gsNil, DL.gSub, setW, useW, useWs, useD, nosto, nostos, fz, fzs, dCall, dCall0, argsD, argD, dLst, dTup, dIte, dAnd, dOr, dNot, dNeg, dBm, isTy, mApp, sIx, kItem, rowOf, dSl, kSl, dNo, dSo, kInt, kStr, kRepr, kListOf, kIsi, tyN, dFor, dRow, dRng1, dRng2, dComp, wipeE, dYes, dJoin, dJs, dFmt, kFmt, pkS, kI2, kAbs, okq, eqv, okqs, eqvs, kCat, dsOf_map, nostos_d, fzs_d, List.getElem?_cons_zero, List.getElem?_cons_succ, List.set_cons_zero, List.set_cons_succ, List.length_cons, List.length_nil, Option.bind_some, Option.map_some, if_true, if_false, Bool.false_eq_true, decide_eq_true_eq, true_and, List.length_map, useWs]
    refine ⟨by decide, by decide, ?_⟩
    simp only [t__law_line_0_3, dSeq, dNext, dIf, dOrT, dAndT, dNotT, dBl, kBl, dTru, kTru, DL.truD, dOp, dCl, s1, s2, dCons, dNil, dVar, dMov, dC, kLenN, peek, lenW, noDict, lenD, sCmp, sOrd, sEq, kEq, sIn, sIsN, nonW, sInt, sAdd, sMul, sRows, rowD, flat, dsOf, seqW, dRet, dRetN, dDrop, dBrk, dCnt, dAsg, gN, gTp, gsCons, gsNil, DL.gSub, setW, useW, useWs, useD, nosto, nostos, fz, fzs, dCall, dCall0, argsD, argD, dLst, dTup, dIte, dAnd, dOr, dNot, dNeg, dBm, isTy, mApp, sIx, kItem, rowOf, dSl, kSl, dNo, dSo, kInt, kStr, kRepr, kListOf, kIsi, tyN, dFor, dRow, dRng1, dRng2, dComp, wipeE, dYes, dJoin, dJs, dFmt, kFmt, pkS, kI2, kAbs, okq, eqv, okqs, eqvs, kCat, dsOf_map, nostos_d, fzs_d, List.getElem?_cons_zero, List.getElem?_cons_succ, List.set_cons_zero, List.set_cons_succ, List.length_cons, List.length_nil, Option.bind_some, Option.map_some, if_true, if_false, Bool.false_eq_true, decide_eq_true_eq, true_and, List.length_map]
    refine ⟨⟨by omega, by omega⟩, ?_⟩
    refine forL_ind (items := rangeW 0 m.toNat) (fun r env => ∃ (l : List Nat) (o3 o4 : Option W), env = [some .sto, some (.d (.int m)), some (.ol (l.map fun c => W.d (.str [c]))), o3, o4] ∧ l.length + r.length ≤ 4001 ∧ ∀ c ∈ l, c < 128) (fun w r env K h hK => ?_) ⟨[], none, none, rfl, by rw [rangeW_len]; simp; omega, fun c m => (by simp at m)⟩ (fun e h => ?_)
    · obtain ⟨l, o3, o4, rfl, ll, hl⟩ := h
      simp only [List.length_cons] at ll
      have next : ∀ c, c < 128 → t__law_line_1_2 { nx := K, rt := (retE k).rt, bk := fun e1 => t__law_line_0_4 (retE k) (fun x _ => kx x) e1, ct := K } (fun x _ => kx x) [some .sto, some (.d (.int m)), some (.ol (l.map fun c => W.d (.str [c]))), some w, some (.d (.str [c]))] := fun c hc => by
        simp only [t__law_line_1_2, dSeq, dNext, dIf, dOrT, dAndT, dNotT, dBl, kBl, dTru, kTru, DL.truD, dOp, dCl, s1, s2, dCons, dNil, dVar, dMov, dC, kLenN, peek, lenW, noDict, lenD, sCmp, sOrd, sEq, kEq, sIn, sIsN, nonW, sInt, sAdd, sMul, sRows, rowD, flat, dsOf, seqW, dRet, dRetN, dDrop, dBrk, dCnt, dAsg, gN, gTp, gsCons, gsNil, DL.gSub, setW, useW, useWs, useD, nosto, nostos, fz, fzs, dCall, dCall0, argsD, argD, dLst, dTup, dIte, dAnd, dOr, dNot, dNeg, dBm, isTy, mApp, sIx, kItem, rowOf, dSl, kSl, dNo, dSo, kInt, kStr, kRepr, kListOf, kIsi, tyN, dFor, dRow, dRng1, dRng2, dComp, wipeE, dYes, dJoin, dJs, dFmt, kFmt, pkS, kI2, kAbs, okq, eqv, okqs, eqvs, kCat, dsOf_map, nostos_d, fzs_d, List.getElem?_cons_zero, List.getElem?_cons_succ, List.set_cons_zero, List.set_cons_succ, List.length_cons, List.length_nil, Option.bind_some, Option.map_some, if_true, if_false, Bool.false_eq_true, decide_eq_true_eq, true_and, List.length_map]
        refine ⟨szl (by omega), hK _ ⟨l ++ [c], some w, some (.d (.str [c])), by rw [List.map_append]; rfl, by rw [List.length_append]; simp only [List.length_cons, List.length_nil]; omega, fun d m => (List.mem_append.mp m).elim (hl d) fun m => by rw [List.mem_singleton.mp m]; exact hc⟩⟩
      simp only [t__law_line_1_0, dSeq, dNext, dIf, dOrT, dAndT, dNotT, dBl, kBl, dTru, kTru, DL.truD, dOp, dCl, s1, s2, dCons, dNil, dVar, dMov, dC, kLenN, peek, lenW, noDict, lenD, sCmp, sOrd, sEq, kEq, sIn, sIsN, nonW, sInt, sAdd, sMul, sRows, rowD, flat, dsOf, seqW, dRet, dRetN, dDrop, dBrk, dCnt, dAsg, gN, gTp, gsCons, gsNil, DL.gSub, setW, useW, useWs, useD, nosto, nostos, fz, fzs, dCall, dCall0, argsD, argD, dLst, dTup, dIte, dAnd, dOr, dNot, dNeg, dBm, isTy, mApp, sIx, kItem, rowOf, dSl, kSl, dNo, dSo, kInt, kStr, kRepr, kListOf, kIsi, tyN, dFor, dRow, dRng1, dRng2, dComp, wipeE, dYes, dJoin, dJs, dFmt, kFmt, pkS, kI2, kAbs, okq, eqv, okqs, eqvs, kCat, dsOf_map, nostos_d, fzs_d, List.getElem?_cons_zero, List.getElem?_cons_succ, List.set_cons_zero, List.set_cons_succ, List.length_cons, List.length_nil, Option.bind_some, Option.map_some, if_true, if_false, Bool.false_eq_true, decide_eq_true_eq, true_and, List.length_map]
      refine ⟨by decide, by decide, ?_⟩
      simp only [t__law_line_1_1, dSeq, dNext, dIf, dOrT, dAndT, dNotT, dBl, kBl, dTru, kTru, DL.truD, dOp, dCl, s1, s2, dCons, dNil, dVar, dMov, dC, kLenN, peek, lenW, noDict, lenD, sCmp, sOrd, sEq, kEq, sIn, sIsN, nonW, sInt, sAdd, sMul, sRows, rowD, flat, dsOf, seqW, dRet, dRetN, dDrop, dBrk, dCnt, dAsg, gN, gTp, gsCons, gsNil, DL.gSub, setW, useW, useWs, useD, nosto, nostos, fz, fzs, dCall, dCall0, argsD, argD, dLst, dTup, dIte, dAnd, dOr, dNot, dNeg, dBm, isTy, mApp, sIx, kItem, rowOf, dSl, kSl, dNo, dSo, kInt, kStr, kRepr, kListOf, kIsi, tyN, dFor, dRow, dRng1, dRng2, dComp, wipeE, dYes, dJoin, dJs, dFmt, kFmt, pkS, kI2, kAbs, okq, eqv, okqs, eqvs, kCat, dsOf_map, nostos_d, fzs_d, List.getElem?_cons_zero, List.getElem?_cons_succ, List.set_cons_zero, List.set_cons_succ, List.length_cons, List.length_nil, Option.bind_some, Option.map_some, if_true, if_false, Bool.false_eq_true, decide_eq_true_eq, true_and, List.length_map, S__law_take, S_take]
      refine ⟨3, rfl, by decide, by decide, fun j j0 j1 => ?_⟩
      simp only [dSeq, dNext, dIf, dOrT, dAndT, dNotT, dBl, kBl, dTru, kTru, DL.truD, dOp, dCl, s1, s2, dCons, dNil, dVar, dMov, dC, kLenN, peek, lenW, noDict, lenD, sCmp, sOrd, sEq, kEq, sIn, sIsN, nonW, sInt, sAdd, sMul, sRows, rowD, flat, dsOf, seqW, dRet, dRetN, dDrop, dBrk, dCnt, dAsg, gN, gTp, gsCons, gsNil, DL.gSub, setW, useW, useWs, useD, nosto, nostos, fz, fzs, dCall, dCall0, argsD, argD, dLst, dTup, dIte, dAnd, dOr, dNot, dNeg, dBm, isTy, mApp, sIx, kItem, rowOf, dSl, kSl, dNo, dSo, kInt, kStr, kRepr, kListOf, kIsi, tyN, dFor, dRow, dRng1, dRng2, dComp, wipeE, dYes, dJoin, dJs, dFmt, kFmt, pkS, kI2, kAbs, okq, eqv, okqs, eqvs, kCat, dsOf_map, nostos_d, fzs_d, List.getElem?_cons_zero, List.getElem?_cons_succ, List.set_cons_zero, List.set_cons_succ, List.length_cons, List.length_nil, Option.bind_some, Option.map_some, if_true, if_false, Bool.false_eq_true, decide_eq_true_eq, true_and, List.length_map, clear, flatL]
      refine ite_i (fun hi => ?_) (fun hi => next 32 (by decide))
      simp only [t__law_line_2_0, dSeq, dNext, dIf, dOrT, dAndT, dNotT, dBl, kBl, dTru, kTru, DL.truD, dOp, dCl, s1, s2, dCons, dNil, dVar, dMov, dC, kLenN, peek, lenW, noDict, lenD, sCmp, sOrd, sEq, kEq, sIn, sIsN, nonW, sInt, sAdd, sMul, sRows, rowD, flat, dsOf, seqW, dRet, dRetN, dDrop, dBrk, dCnt, dAsg, gN, gTp, gsCons, gsNil, DL.gSub, setW, useW, useWs, useD, nosto, nostos, fz, fzs, dCall, dCall0, argsD, argD, dLst, dTup, dIte, dAnd, dOr, dNot, dNeg, dBm, isTy, mApp, sIx, kItem, rowOf, dSl, kSl, dNo, dSo, kInt, kStr, kRepr, kListOf, kIsi, tyN, dFor, dRow, dRng1, dRng2, dComp, wipeE, dYes, dJoin, dJs, dFmt, kFmt, pkS, kI2, kAbs, okq, eqv, okqs, eqvs, kCat, dsOf_map, nostos_d, fzs_d, List.getElem?_cons_zero, List.getElem?_cons_succ, List.set_cons_zero, List.set_cons_succ, List.length_cons, List.length_nil, Option.bind_some, Option.map_some, if_true, if_false, Bool.false_eq_true, decide_eq_true_eq, true_and, List.length_map, S__law_char]
      intro c hc
      simp only [dSeq, dNext, dIf, dOrT, dAndT, dNotT, dBl, kBl, dTru, kTru, DL.truD, dOp, dCl, s1, s2, dCons, dNil, dVar, dMov, dC, kLenN, peek, lenW, noDict, lenD, sCmp, sOrd, sEq, kEq, sIn, sIsN, nonW, sInt, sAdd, sMul, sRows, rowD, flat, dsOf, seqW, dRet, dRetN, dDrop, dBrk, dCnt, dAsg, gN, gTp, gsCons, gsNil, DL.gSub, setW, useW, useWs, useD, nosto, nostos, fz, fzs, dCall, dCall0, argsD, argD, dLst, dTup, dIte, dAnd, dOr, dNot, dNeg, dBm, isTy, mApp, sIx, kItem, rowOf, dSl, kSl, dNo, dSo, kInt, kStr, kRepr, kListOf, kIsi, tyN, dFor, dRow, dRng1, dRng2, dComp, wipeE, dYes, dJoin, dJs, dFmt, kFmt, pkS, kI2, kAbs, okq, eqv, okqs, eqvs, kCat, dsOf_map, nostos_d, fzs_d, List.getElem?_cons_zero, List.getElem?_cons_succ, List.set_cons_zero, List.set_cons_succ, List.length_cons, List.length_nil, Option.bind_some, Option.map_some, if_true, if_false, Bool.false_eq_true, decide_eq_true_eq, true_and, List.length_map, clear, flatL]
      exact ⟨by decide, next c hc⟩
    · obtain ⟨l, o3, o4, rfl, ll, hl⟩ := h
      simp only [t__law_line_0_4, dSeq, dNext, dIf, dOrT, dAndT, dNotT, dBl, kBl, dTru, kTru, DL.truD, dOp, dCl, s1, s2, dCons, dNil, dVar, dMov, dC, kLenN, peek, lenW, noDict, lenD, sCmp, sOrd, sEq, kEq, sIn, sIsN, nonW, sInt, sAdd, sMul, sRows, rowD, flat, dsOf, seqW, dRet, dRetN, dDrop, dBrk, dCnt, dAsg, gN, gTp, gsCons, gsNil, DL.gSub, setW, useW, useWs, useD, nosto, nostos, fz, fzs, dCall, dCall0, argsD, argD, dLst, dTup, dIte, dAnd, dOr, dNot, dNeg, dBm, isTy, mApp, sIx, kItem, rowOf, dSl, kSl, dNo, dSo, kInt, kStr, kRepr, kListOf, kIsi, tyN, dFor, dRow, dRng1, dRng2, dComp, wipeE, dYes, dJoin, dJs, dFmt, kFmt, pkS, kI2, kAbs, okq, eqv, okqs, eqvs, kCat, dsOf_map, nostos_d, fzs_d, List.getElem?_cons_zero, List.getElem?_cons_succ, List.set_cons_zero, List.set_cons_succ, List.length_cons, List.length_nil, Option.bind_some, Option.map_some, if_true, if_false, Bool.false_eq_true, decide_eq_true_eq, true_and, List.length_map]
      have ll : l.length ≤ 4001 := by simpa using ll
      refine mJoin_chars (l := l) (flat_map (f := fun c => D.str [c])) (by omega) ?_
      simp only [dSeq, dNext, dIf, dOrT, dAndT, dNotT, dBl, kBl, dTru, kTru, DL.truD, dOp, dCl, s1, s2, dCons, dNil, dVar, dMov, dC, kLenN, peek, lenW, noDict, lenD, sCmp, sOrd, sEq, kEq, sIn, sIsN, nonW, sInt, sAdd, sMul, sRows, rowD, flat, dsOf, seqW, dRet, dRetN, dDrop, dBrk, dCnt, dAsg, gN, gTp, gsCons, gsNil, DL.gSub, setW, useW, useWs, useD, nosto, nostos, fz, fzs, dCall, dCall0, argsD, argD, dLst, dTup, dIte, dAnd, dOr, dNot, dNeg, dBm, isTy, mApp, sIx, kItem, rowOf, dSl, kSl, dNo, dSo, kInt, kStr, kRepr, kListOf, kIsi, tyN, dFor, dRow, dRng1, dRng2, dComp, wipeE, dYes, dJoin, dJs, dFmt, kFmt, pkS, kI2, kAbs, okq, eqv, okqs, eqvs, kCat, dsOf_map, nostos_d, fzs_d, List.getElem?_cons_zero, List.getElem?_cons_succ, List.set_cons_zero, List.set_cons_succ, List.length_cons, List.length_nil, Option.bind_some, Option.map_some, if_true, if_false, Bool.false_eq_true, decide_eq_true_eq, true_and, List.length_map, retE]
      exact ⟨_, rfl, hk l ⟨ll, hl⟩⟩
  simp only [t__law_line, t__law_line_0_0, dSeq, dNext, dIf, dOrT, dAndT, dNotT, dBl, kBl, dTru, kTru, DL.truD, dOp, dCl, s1, s2, dCons, dNil, dVar, dMov, dC, kLenN, peek, lenW, noDict, lenD, sCmp, sOrd, sEq, kEq, sIn, sIsN, nonW, sInt, sAdd, sMul, sRows, rowD, flat, dsOf, seqW, dRet, dRetN, dDrop, dBrk, dCnt, dAsg, gN, gTp, gsCons, gsNil, DL.gSub, setW, useW, useWs, useD, nosto, nostos, fz, fzs, dCall, dCall0, argsD, argD, dLst, dTup, dIte, dAnd, dOr, dNot, dNeg, dBm, isTy, mApp, sIx, kItem, rowOf, dSl, kSl, dNo, dSo, kInt, kStr, kRepr, kListOf, kIsi, tyN, dFor, dRow, dRng1, dRng2, dComp, wipeE, dYes, dJoin, dJs, dFmt, kFmt, pkS, kI2, kAbs, okq, eqv, okqs, eqvs, kCat, dsOf_map, nostos_d, fzs_d, List.getElem?_cons_zero, List.getElem?_cons_succ, List.set_cons_zero, List.set_cons_succ, List.length_cons, List.length_nil, Option.bind_some, Option.map_some, if_true, if_false, Bool.false_eq_true, decide_eq_true_eq, true_and, List.length_map, S__law_between]
  refine ⟨0, 40, rfl, by decide, by decide, fun i i0 i1 => ?_⟩
  simp only [dSeq, dNext, dIf, dOrT, dAndT, dNotT, dBl, kBl, dTru, kTru, DL.truD, dOp, dCl, s1, s2, dCons, dNil, dVar, dMov, dC, kLenN, peek, lenW, noDict, lenD, sCmp, sOrd, sEq, kEq, sIn, sIsN, nonW, sInt, sAdd, sMul, sRows, rowD, flat, dsOf, seqW, dRet, dRetN, dDrop, dBrk, dCnt, dAsg, gN, gTp, gsCons, gsNil, DL.gSub, setW, useW, useWs, useD, nosto, nostos, fz, fzs, dCall, dCall0, argsD, argD, dLst, dTup, dIte, dAnd, dOr, dNot, dNeg, dBm, isTy, mApp, sIx, kItem, rowOf, dSl, kSl, dNo, dSo, kInt, kStr, kRepr, kListOf, kIsi, tyN, dFor, dRow, dRng1, dRng2, dComp, wipeE, dYes, dJoin, dJs, dFmt, kFmt, pkS, kI2, kAbs, okq, eqv, okqs, eqvs, kCat, dsOf_map, nostos_d, fzs_d, List.getElem?_cons_zero, List.getElem?_cons_succ, List.set_cons_zero, List.set_cons_succ, List.length_cons, List.length_nil, Option.bind_some, Option.map_some, if_true, if_false, Bool.false_eq_true, decide_eq_true_eq, true_and, List.length_map, clear, flatL]
  refine ⟨by decide, ?_⟩
  simp only [t__law_line_0_1, dSeq, dNext, dIf, dOrT, dAndT, dNotT, dBl, kBl, dTru, kTru, DL.truD, dOp, dCl, s1, s2, dCons, dNil, dVar, dMov, dC, kLenN, peek, lenW, noDict, lenD, sCmp, sOrd, sEq, kEq, sIn, sIsN, nonW, sInt, sAdd, sMul, sRows, rowD, flat, dsOf, seqW, dRet, dRetN, dDrop, dBrk, dCnt, dAsg, gN, gTp, gsCons, gsNil, DL.gSub, setW, useW, useWs, useD, nosto, nostos, fz, fzs, dCall, dCall0, argsD, argD, dLst, dTup, dIte, dAnd, dOr, dNot, dNeg, dBm, isTy, mApp, sIx, kItem, rowOf, dSl, kSl, dNo, dSo, kInt, kStr, kRepr, kListOf, kIsi, tyN, dFor, dRow, dRng1, dRng2, dComp, wipeE, dYes, dJoin, dJs, dFmt, kFmt, pkS, kI2, kAbs, okq, eqv, okqs, eqvs, kCat, dsOf_map, nostos_d, fzs_d, List.getElem?_cons_zero, List.getElem?_cons_succ, List.set_cons_zero, List.set_cons_succ, List.length_cons, List.length_nil, Option.bind_some, Option.map_some, if_true, if_false, Bool.false_eq_true, decide_eq_true_eq, true_and, List.length_map, S__law_take, S_take]
  refine ⟨12, rfl, by decide, by decide, fun j j0 j1 => ?_⟩
  simp only [dSeq, dNext, dIf, dOrT, dAndT, dNotT, dBl, kBl, dTru, kTru, DL.truD, dOp, dCl, s1, s2, dCons, dNil, dVar, dMov, dC, kLenN, peek, lenW, noDict, lenD, sCmp, sOrd, sEq, kEq, sIn, sIsN, nonW, sInt, sAdd, sMul, sRows, rowD, flat, dsOf, seqW, dRet, dRetN, dDrop, dBrk, dCnt, dAsg, gN, gTp, gsCons, gsNil, DL.gSub, setW, useW, useWs, useD, nosto, nostos, fz, fzs, dCall, dCall0, argsD, argD, dLst, dTup, dIte, dAnd, dOr, dNot, dNeg, dBm, isTy, mApp, sIx, kItem, rowOf, dSl, kSl, dNo, dSo, kInt, kStr, kRepr, kListOf, kIsi, tyN, dFor, dRow, dRng1, dRng2, dComp, wipeE, dYes, dJoin, dJs, dFmt, kFmt, pkS, kI2, kAbs, okq, eqv, okqs, eqvs, kCat, dsOf_map, nostos_d, fzs_d, List.getElem?_cons_zero, List.getElem?_cons_succ, List.set_cons_zero, List.set_cons_succ, List.length_cons, List.length_nil, Option.bind_some, Option.map_some, if_true, if_false, Bool.false_eq_true, decide_eq_true_eq, true_and, List.length_map, clear, flatL, Bool.false_bne]
  refine ite_i (fun hi => ?_) (fun hi => main i i0 (by omega))
  simp only [t__law_line_3_0, dSeq, dNext, dIf, dOrT, dAndT, dNotT, dBl, kBl, dTru, kTru, DL.truD, dOp, dCl, s1, s2, dCons, dNil, dVar, dMov, dC, kLenN, peek, lenW, noDict, lenD, sCmp, sOrd, sEq, kEq, sIn, sIsN, nonW, sInt, sAdd, sMul, sRows, rowD, flat, dsOf, seqW, dRet, dRetN, dDrop, dBrk, dCnt, dAsg, gN, gTp, gsCons, gsNil, DL.gSub, setW, useW, useWs, useD, nosto, nostos, fz, fzs, dCall, dCall0, argsD, argD, dLst, dTup, dIte, dAnd, dOr, dNot, dNeg, dBm, isTy, mApp, sIx, kItem, rowOf, dSl, kSl, dNo, dSo, kInt, kStr, kRepr, kListOf, kIsi, tyN, dFor, dRow, dRng1, dRng2, dComp, wipeE, dYes, dJoin, dJs, dFmt, kFmt, pkS, kI2, kAbs, okq, eqv, okqs, eqvs, kCat, dsOf_map, nostos_d, fzs_d, List.getElem?_cons_zero, List.getElem?_cons_succ, List.set_cons_zero, List.set_cons_succ, List.length_cons, List.length_nil, Option.bind_some, Option.map_some, if_true, if_false, Bool.false_eq_true, decide_eq_true_eq, true_and, List.length_map, S__law_take, S_take]
  refine ⟨2, rfl, by decide, by decide, fun q q0 q1 => ?_⟩
  simp only [dSeq, dNext, dIf, dOrT, dAndT, dNotT, dBl, kBl, dTru, kTru, DL.truD, dOp, dCl, s1, s2, dCons, dNil, dVar, dMov, dC, kLenN, peek, lenW, noDict, lenD, sCmp, sOrd, sEq, kEq, sIn, sIsN, nonW, sInt, sAdd, sMul, sRows, rowD, flat, dsOf, seqW, dRet, dRetN, dDrop, dBrk, dCnt, dAsg, gN, gTp, gsCons, gsNil, DL.gSub, setW, useW, useWs, useD, nosto, nostos, fz, fzs, dCall, dCall0, argsD, argD, dLst, dTup, dIte, dAnd, dOr, dNot, dNeg, dBm, isTy, mApp, sIx, kItem, rowOf, dSl, kSl, dNo, dSo, kInt, kStr, kRepr, kListOf, kIsi, tyN, dFor, dRow, dRng1, dRng2, dComp, wipeE, dYes, dJoin, dJs, dFmt, kFmt, pkS, kI2, kAbs, okq, eqv, okqs, eqvs, kCat, dsOf_map, nostos_d, fzs_d, List.getElem?_cons_zero, List.getElem?_cons_succ, List.set_cons_zero, List.set_cons_succ, List.length_cons, List.length_nil, Option.bind_some, Option.map_some, if_true, if_false, Bool.false_eq_true, decide_eq_true_eq, true_and, List.length_map, clear, flatL]
  exact ⟨by decide, main _ (by omega) (by omega)⟩
end Lk27

namespace Lk27
open PySem DL
def cutE : Option (List Nat × Nat) → D
  | some p => cutD p
  | none => .non
def spotsE : Option (List (Option Nat)) → D
  | some l => .lst (l.map optI)
  | none => .non
theorem nosto_cutW (o) : nosto (cutW o) = true := by cases o <;> rfl
theorem nosto_spotsW (o) : nosto (spotsW o) = true := by
  cases o with
  | none => rfl
  | some l => exact nostos_map
theorem fz_cutW (o) : fz (cutW o) = cutE o := by cases o <;> rfl
theorem fz_spotsW (o) : fz (spotsW o) = spotsE o := by
  cases o with
  | none => rfl
  | some l => show D.lst (fzs _) = D.lst _; rw [fzs_map]
theorem useW_i {w : W} {env : DL.Env} {k : W → DL.Env → Prop} (h : nosto w = true) (hk : k w env) : useW w env k := by
  cases w <;> first | exact ⟨h, hk⟩ | cases h
theorem rspots_len : ∀ {ss : List (List Nat)} {l : List (Option Nat)}, rspots ss = some l → l.length = ss.length
  | [], _, h => by cases h; rfl
  | s :: ss, l, h => by
    have h : (match rspot s with | some o => (rspots ss).map (o :: ·) | none => none) = some l := h
    cases e : rspot s with
    | none => rw [e] at h; cases h
    | some o =>
      rw [e] at h
      have h : (rspots ss).map (o :: ·) = some l := h
      cases e2 : rspots ss with
      | none => rw [e2] at h; cases h
      | some l2 => rw [e2] at h; cases h; exact congrArg Nat.succ (rspots_len e2)
theorem rcut_side {s : List Nat} {p : List Nat × Nat} (h : rcut s = some p) : p.1 = tRow ∨ p.1 = tCol := by
  cases s with
  | nil => cases h
  | cons c t =>
    have h : (match rnum t with | some n => if c = 114 then some (tRow, n) else if c = 99 then some (tCol, n) else none | none => none) = some p := h
    cases e : rnum t with
    | none => rw [e] at h; cases h
    | some n =>
      rw [e] at h
      have h : (if c = 114 then some (tRow, n) else if c = 99 then some (tCol, n) else none) = some p := h
      split at h
      · cases h; exact .inl rfl
      · split at h
        · cases h; exact .inr rfl
        · cases h
theorem pln_opt (o) : pln (optI o) = true := by cases o <;> rfl
theorem sz_opt (o) : szD (optI o) = 1 := by cases o <;> rfl
theorem plns_opt : ∀ l : List (Option Nat), plns (l.map optI) = true
  | [] => rfl
  | o :: l => by show (pln (optI o) && plns (l.map optI)) = true; rw [pln_opt, plns_opt]; rfl
theorem szs_opt : ∀ l : List (Option Nat), szs (l.map optI) = l.length
  | [] => rfl
  | o :: l => by show szD (optI o) + szs (l.map optI) = l.length + 1; rw [sz_opt, szs_opt]; omega
theorem pln_spots (o) : pln (spotsE o) = true := by
  cases o with
  | none => rfl
  | some l => exact plns_opt l
theorem sz_spots {ss o} (h : rspots ss = o) : szD (spotsE o) ≤ 1 + ss.length := by
  cases o with
  | none => show 1 ≤ _; omega
  | some l => show 1 + szs (l.map optI) ≤ _; rw [szs_opt, rspots_len h]; omega
theorem pln_cut {s : List Nat} {o} (h : rcut s = o) : pln (cutE o) = true := by
  cases o with
  | none => rfl
  | some p =>
    obtain ⟨side, n⟩ := p
    rcases rcut_side h with e | e
    · cases e; rfl
    · cases e; rfl
theorem sz_cut (o) : szD (cutE o) ≤ 3 := by
  cases o with
  | none => show 1 ≤ 3; omega
  | some p => show 1 + (1 + (1 + 0)) ≤ 3; omega
theorem head_num (o : Option Nat) : (o.toList.map fun n : Nat => D.int n).headD .non = optI o := by cases o <;> rfl
theorem call_i {n : Nat} {s : DSp} {tr : DTA} {env : DL.Env} {k : DK} {kx : XC} (h : tr env (fun ws e1 => ws.length = n ∧ argsD ws e1 fun ws' e2 => s ws' (fun w => nosto w = true ∧ k w (if clear w = true then e1 else e2)) fun x => kx x e2) kx) : dCall n s tr env k kx := h
theorem useWs_i {w : W} {ws : List W} {env : DL.Env} {k : List W → DL.Env → Prop} (h : nosto w = true) (hk : useWs ws env fun ws' e => k (w :: ws') e) : useWs (w :: ws) env k := useW_i h hk
theorem useWs_n {env : DL.Env} {k : List W → DL.Env → Prop} (hk : k [] env) : useWs [] env k := hk
theorem useWs_at {i : Nat} {x : D} {ws : List W} {env : DL.Env} {k : List W → DL.Env → Prop} (h : env[i]? = some (some (.d x))) (hk : useWs ws env fun ws' e => k (.d x :: ws') e) : useWs (.at_ i :: ws) env k := by
  show useD (.at_ i) env _
  unfold useD
  simp only [h]
  exact hk
theorem argD_i {w : W} {env : DL.Env} {k : W → DL.Env → Prop} (h : nosto w = true) (hk : k (.d (fz w)) env) : argD w env k := by
  cases w <;> first | exact hk | exact ⟨h, hk⟩ | cases h
theorem hd_num (o : Option Nat) : (fzs (o.toList.map fun n : Nat => W.d (.int n))).headD .non = optI o := by cases o <;> rfl
theorem hd_cut (o : Option (List Nat × Nat)) : (fzs (o.toList.map cutT)).headD .non = cutE o := by cases o <;> rfl
theorem nostos_cutT (o : Option (List Nat × Nat)) : nostos (o.toList.map cutT) = true := by cases o <;> rfl
theorem p__law_word_right : ∀ ws k kx, ws.length = 1 → S__law_word_right ws k kx → t__law_word_right (retE k) (fun x _ => kx x) (startE N__law_word_right ws) := by
  rintro ws k kx - ⟨s, rfl, hs, hk⟩
  rw [se__law_word_right]
  have l10 : s.length ≤ 10000 := by have := hs.1; omega
  simp only [t__law_word_right, t__law_word_right_0_0, dSeq, dNext, dIf, dOrT, dAndT, dNotT, dBl, kBl, dTru, kTru, DL.truD, dOp, dCl, s1, s2, dCons, dNil, dVar, dMov, dC, kLenN, peek, lenW, noDict, lenD, sCmp, sOrd, sEq, kEq, sIn, sIsN, nonW, sInt, sAdd, sMul, sRows, rowD, flat, dsOf, seqW, dRet, dRetN, dDrop, dBrk, dCnt, dAsg, gN, gTp, gsCons, gsNil, DL.gSub, setW, useD, nosto, nostos, fz, fzs, dCall0, argsD, argD, dLst, dTup, dIte, dAnd, dOr, dNot, dNeg, dBm, isTy, mApp, sIx, kItem, rowOf, dSl, kSl, dNo, dSo, kInt, kStr, kRepr, kListOf, kIsi, tyN, dFor, dRow, dRng1, dRng2, dComp, wipeE, dYes, dJoin, dJs, dFmt, kFmt, pkS, kI2, kAbs, okq, eqv, okqs, eqvs, kCat, dsOf_map, nostos_d, fzs_d, List.getElem?_cons_zero, List.getElem?_cons_succ, List.set_cons_zero, List.set_cons_succ, List.length_cons, List.length_nil, Option.bind_some, Option.map_some, if_true, if_false, Bool.false_eq_true, decide_eq_true_eq, true_and, List.length_map, ite_self]
  refine call_i ?_
  simp only [dSeq, dNext, dIf, dOrT, dAndT, dNotT, dBl, kBl, dTru, kTru, DL.truD, dOp, dCl, s1, s2, dCons, dNil, dVar, dMov, dC, kLenN, peek, lenW, noDict, lenD, sCmp, sOrd, sEq, kEq, sIn, sIsN, nonW, sInt, sAdd, sMul, sRows, rowD, flat, dsOf, seqW, dRet, dRetN, dDrop, dBrk, dCnt, dAsg, gN, gTp, gsCons, gsNil, DL.gSub, setW, useD, nosto, nostos, fz, fzs, dCall0, argsD, argD, dLst, dTup, dIte, dAnd, dOr, dNot, dNeg, dBm, isTy, mApp, sIx, kItem, rowOf, dSl, kSl, dNo, dSo, kInt, kStr, kRepr, kListOf, kIsi, tyN, dFor, dRow, dRng1, dRng2, dComp, wipeE, dYes, dJoin, dJs, dFmt, kFmt, pkS, kI2, kAbs, okq, eqv, okqs, eqvs, kCat, dsOf_map, nostos_d, fzs_d, List.getElem?_cons_zero, List.getElem?_cons_succ, List.set_cons_zero, List.set_cons_succ, List.length_cons, List.length_nil, Option.bind_some, Option.map_some, if_true, if_false, Bool.false_eq_true, decide_eq_true_eq, true_and, List.length_map, ite_self]
  refine ⟨s, rfl, l10, rfl, ?_⟩
  refine call_i ?_
  simp only [dSeq, dNext, dIf, dOrT, dAndT, dNotT, dBl, kBl, dTru, kTru, DL.truD, dOp, dCl, s1, s2, dCons, dNil, dVar, dMov, dC, kLenN, peek, lenW, noDict, lenD, sCmp, sOrd, sEq, kEq, sIn, sIsN, nonW, sInt, sAdd, sMul, sRows, rowD, flat, dsOf, seqW, dRet, dRetN, dDrop, dBrk, dCnt, dAsg, gN, gTp, gsCons, gsNil, DL.gSub, setW, useD, nosto, nostos, fz, fzs, dCall0, argsD, argD, dLst, dTup, dIte, dAnd, dOr, dNot, dNeg, dBm, isTy, mApp, sIx, kItem, rowOf, dSl, kSl, dNo, dSo, kInt, kStr, kRepr, kListOf, kIsi, tyN, dFor, dRow, dRng1, dRng2, dComp, wipeE, dYes, dJoin, dJs, dFmt, kFmt, pkS, kI2, kAbs, okq, eqv, okqs, eqvs, kCat, dsOf_map, nostos_d, fzs_d, List.getElem?_cons_zero, List.getElem?_cons_succ, List.set_cons_zero, List.set_cons_succ, List.length_cons, List.length_nil, Option.bind_some, Option.map_some, if_true, if_false, Bool.false_eq_true, decide_eq_true_eq, true_and, List.length_map, ite_self]
  refine ⟨s, rfl, l10, nosto_cutW _, ?_⟩
  refine call_i ?_
  simp only [dSeq, dNext, dIf, dOrT, dAndT, dNotT, dBl, kBl, dTru, kTru, DL.truD, dOp, dCl, s1, s2, dCons, dNil, dVar, dMov, dC, kLenN, peek, lenW, noDict, lenD, sCmp, sOrd, sEq, kEq, sIn, sIsN, nonW, sInt, sAdd, sMul, sRows, rowD, flat, dsOf, seqW, dRet, dRetN, dDrop, dBrk, dCnt, dAsg, gN, gTp, gsCons, gsNil, DL.gSub, setW, useD, nosto, nostos, fz, fzs, dCall0, argsD, argD, dLst, dTup, dIte, dAnd, dOr, dNot, dNeg, dBm, isTy, mApp, sIx, kItem, rowOf, dSl, kSl, dNo, dSo, kInt, kStr, kRepr, kListOf, kIsi, tyN, dFor, dRow, dRng1, dRng2, dComp, wipeE, dYes, dJoin, dJs, dFmt, kFmt, pkS, kI2, kAbs, okq, eqv, okqs, eqvs, kCat, dsOf_map, nostos_d, fzs_d, List.getElem?_cons_zero, List.getElem?_cons_succ, List.set_cons_zero, List.set_cons_succ, List.length_cons, List.length_nil, Option.bind_some, Option.map_some, if_true, if_false, Bool.false_eq_true, decide_eq_true_eq, true_and, List.length_map, ite_self]
  refine ⟨s, rfl, l10, rfl, ?_⟩
  refine call_i ?_
  simp only [dSeq, dNext, dIf, dOrT, dAndT, dNotT, dBl, kBl, dTru, kTru, DL.truD, dOp, dCl, s1, s2, dCons, dNil, dVar, dMov, dC, kLenN, peek, lenW, noDict, lenD, sCmp, sOrd, sEq, kEq, sIn, sIsN, nonW, sInt, sAdd, sMul, sRows, rowD, flat, dsOf, seqW, dRet, dRetN, dDrop, dBrk, dCnt, dAsg, gN, gTp, gsCons, gsNil, DL.gSub, setW, useD, nosto, nostos, fz, fzs, dCall0, argsD, argD, dLst, dTup, dIte, dAnd, dOr, dNot, dNeg, dBm, isTy, mApp, sIx, kItem, rowOf, dSl, kSl, dNo, dSo, kInt, kStr, kRepr, kListOf, kIsi, tyN, dFor, dRow, dRng1, dRng2, dComp, wipeE, dYes, dJoin, dJs, dFmt, kFmt, pkS, kI2, kAbs, okq, eqv, okqs, eqvs, kCat, dsOf_map, nostos_d, fzs_d, List.getElem?_cons_zero, List.getElem?_cons_succ, List.set_cons_zero, List.set_cons_succ, List.length_cons, List.length_nil, Option.bind_some, Option.map_some, if_true, if_false, Bool.false_eq_true, decide_eq_true_eq, true_and, List.length_map, ite_self]
  refine useWs_at rfl (useWs_n ⟨szl (by simp), ?_⟩)
  simp only [dSeq, dNext, dIf, dOrT, dAndT, dNotT, dBl, kBl, dTru, kTru, DL.truD, dOp, dCl, s1, s2, dCons, dNil, dVar, dMov, dC, kLenN, peek, lenW, noDict, lenD, sCmp, sOrd, sEq, kEq, sIn, sIsN, nonW, sInt, sAdd, sMul, sRows, rowD, flat, dsOf, seqW, dRet, dRetN, dDrop, dBrk, dCnt, dAsg, gN, gTp, gsCons, gsNil, DL.gSub, setW, useD, nosto, nostos, fz, fzs, dCall0, argsD, argD, dLst, dTup, dIte, dAnd, dOr, dNot, dNeg, dBm, isTy, mApp, sIx, kItem, rowOf, dSl, kSl, dNo, dSo, kInt, kStr, kRepr, kListOf, kIsi, tyN, dFor, dRow, dRng1, dRng2, dComp, wipeE, dYes, dJoin, dJs, dFmt, kFmt, pkS, kI2, kAbs, okq, eqv, okqs, eqvs, kCat, dsOf_map, nostos_d, fzs_d, List.getElem?_cons_zero, List.getElem?_cons_succ, List.set_cons_zero, List.set_cons_succ, List.length_cons, List.length_nil, Option.bind_some, Option.map_some, if_true, if_false, Bool.false_eq_true, decide_eq_true_eq, true_and, List.length_map, ite_self]
  refine ⟨rfl, [s], rfl, by simp, fun t m => by rw [List.mem_singleton.mp m]; exact l10, nosto_spotsW _, ?_⟩
  refine call_i ?_
  simp only [dSeq, dNext, dIf, dOrT, dAndT, dNotT, dBl, kBl, dTru, kTru, DL.truD, dOp, dCl, s1, s2, dCons, dNil, dVar, dMov, dC, kLenN, peek, lenW, noDict, lenD, sCmp, sOrd, sEq, kEq, sIn, sIsN, nonW, sInt, sAdd, sMul, sRows, rowD, flat, dsOf, seqW, dRet, dRetN, dDrop, dBrk, dCnt, dAsg, gN, gTp, gsCons, gsNil, DL.gSub, setW, useD, nosto, nostos, fz, fzs, dCall0, argsD, argD, dLst, dTup, dIte, dAnd, dOr, dNot, dNeg, dBm, isTy, mApp, sIx, kItem, rowOf, dSl, kSl, dNo, dSo, kInt, kStr, kRepr, kListOf, kIsi, tyN, dFor, dRow, dRng1, dRng2, dComp, wipeE, dYes, dJoin, dJs, dFmt, kFmt, pkS, kI2, kAbs, okq, eqv, okqs, eqvs, kCat, dsOf_map, nostos_d, fzs_d, List.getElem?_cons_zero, List.getElem?_cons_succ, List.set_cons_zero, List.set_cons_succ, List.length_cons, List.length_nil, Option.bind_some, Option.map_some, if_true, if_false, Bool.false_eq_true, decide_eq_true_eq, true_and, List.length_map, ite_self]
  refine useWs_i rfl (useWs_at rfl (useWs_i rfl (useWs_n ⟨szl (by simp), ?_⟩)))
  simp only [dSeq, dNext, dIf, dOrT, dAndT, dNotT, dBl, kBl, dTru, kTru, DL.truD, dOp, dCl, s1, s2, dCons, dNil, dVar, dMov, dC, kLenN, peek, lenW, noDict, lenD, sCmp, sOrd, sEq, kEq, sIn, sIsN, nonW, sInt, sAdd, sMul, sRows, rowD, flat, dsOf, seqW, dRet, dRetN, dDrop, dBrk, dCnt, dAsg, gN, gTp, gsCons, gsNil, DL.gSub, setW, useD, nosto, nostos, fz, fzs, dCall0, argsD, argD, dLst, dTup, dIte, dAnd, dOr, dNot, dNeg, dBm, isTy, mApp, sIx, kItem, rowOf, dSl, kSl, dNo, dSo, kInt, kStr, kRepr, kListOf, kIsi, tyN, dFor, dRow, dRng1, dRng2, dComp, wipeE, dYes, dJoin, dJs, dFmt, kFmt, pkS, kI2, kAbs, okq, eqv, okqs, eqvs, kCat, dsOf_map, nostos_d, fzs_d, List.getElem?_cons_zero, List.getElem?_cons_succ, List.set_cons_zero, List.set_cons_succ, List.length_cons, List.length_nil, Option.bind_some, Option.map_some, if_true, if_false, Bool.false_eq_true, decide_eq_true_eq, true_and, List.length_map, ite_self]
  refine ⟨rfl, [[55], s, [45]], rfl, by simp, fun t m => ?_, nosto_spotsW _, ?_⟩
  · simp only [List.mem_cons, List.not_mem_nil, or_false] at m
    rcases m with rfl | rfl | rfl
    · decide
    · exact l10
    · decide
  refine useWs_i rfl (useWs_i (nosto_cutW _) (useWs_i rfl (useWs_i (nosto_spotsW _) (useWs_i (nosto_spotsW _) (useWs_n ⟨szl (by simp), useW_i ?_ ⟨by simp, ?_⟩⟩)))))
  · simp only [nosto, nostos, nosto_cutW, nosto_spotsW, Bool.and_self]
  simp only [t__law_word_right_0_1, dSeq, dNext, dIf, dOrT, dAndT, dNotT, dBl, kBl, dTru, kTru, DL.truD, dOp, dCl, s1, s2, dCons, dNil, dVar, dMov, dC, kLenN, peek, lenW, noDict, lenD, sCmp, sOrd, sEq, kEq, sIn, sIsN, nonW, sInt, sAdd, sMul, sRows, rowD, flat, dsOf, seqW, dRet, dRetN, dDrop, dBrk, dCnt, dAsg, gN, gTp, gsCons, gsNil, DL.gSub, setW, useD, nosto, nostos, fz, fzs, dCall0, argsD, argD, dLst, dTup, dIte, dAnd, dOr, dNot, dNeg, dBm, isTy, mApp, sIx, kItem, rowOf, dSl, kSl, dNo, dSo, kInt, kStr, kRepr, kListOf, kIsi, tyN, dFor, dRow, dRng1, dRng2, dComp, wipeE, dYes, dJoin, dJs, dFmt, kFmt, pkS, kI2, kAbs, okq, eqv, okqs, eqvs, kCat, dsOf_map, nostos_d, fzs_d, List.getElem?_cons_zero, List.getElem?_cons_succ, List.set_cons_zero, List.set_cons_succ, List.length_cons, List.length_nil, Option.bind_some, Option.map_some, if_true, if_false, Bool.false_eq_true, decide_eq_true_eq, true_and, List.length_map, ite_self]
  refine call_i ?_
  simp only [dSeq, dNext, dIf, dOrT, dAndT, dNotT, dBl, kBl, dTru, kTru, DL.truD, dOp, dCl, s1, s2, dCons, dNil, dVar, dMov, dC, kLenN, peek, lenW, noDict, lenD, sCmp, sOrd, sEq, kEq, sIn, sIsN, nonW, sInt, sAdd, sMul, sRows, rowD, flat, dsOf, seqW, dRet, dRetN, dDrop, dBrk, dCnt, dAsg, gN, gTp, gsCons, gsNil, DL.gSub, setW, useD, nosto, nostos, fz, fzs, dCall0, argsD, argD, dLst, dTup, dIte, dAnd, dOr, dNot, dNeg, dBm, isTy, mApp, sIx, kItem, rowOf, dSl, kSl, dNo, dSo, kInt, kStr, kRepr, kListOf, kIsi, tyN, dFor, dRow, dRng1, dRng2, dComp, wipeE, dYes, dJoin, dJs, dFmt, kFmt, pkS, kI2, kAbs, okq, eqv, okqs, eqvs, kCat, dsOf_map, nostos_d, fzs_d, List.getElem?_cons_zero, List.getElem?_cons_succ, List.set_cons_zero, List.set_cons_succ, List.length_cons, List.length_nil, Option.bind_some, Option.map_some, if_true, if_false, Bool.false_eq_true, decide_eq_true_eq, true_and, List.length_map, ite_self]
  refine call_i ?_
  simp only [dSeq, dNext, dIf, dOrT, dAndT, dNotT, dBl, kBl, dTru, kTru, DL.truD, dOp, dCl, s1, s2, dCons, dNil, dVar, dMov, dC, kLenN, peek, lenW, noDict, lenD, sCmp, sOrd, sEq, kEq, sIn, sIsN, nonW, sInt, sAdd, sMul, sRows, rowD, flat, dsOf, seqW, dRet, dRetN, dDrop, dBrk, dCnt, dAsg, gN, gTp, gsCons, gsNil, DL.gSub, setW, useD, nosto, nostos, fz, fzs, dCall0, argsD, argD, dLst, dTup, dIte, dAnd, dOr, dNot, dNeg, dBm, isTy, mApp, sIx, kItem, rowOf, dSl, kSl, dNo, dSo, kInt, kStr, kRepr, kListOf, kIsi, tyN, dFor, dRow, dRng1, dRng2, dComp, wipeE, dYes, dJoin, dJs, dFmt, kFmt, pkS, kI2, kAbs, okq, eqv, okqs, eqvs, kCat, dsOf_map, nostos_d, fzs_d, List.getElem?_cons_zero, List.getElem?_cons_succ, List.set_cons_zero, List.set_cons_succ, List.length_cons, List.length_nil, Option.bind_some, Option.map_some, if_true, if_false, Bool.false_eq_true, decide_eq_true_eq, true_and, List.length_map, ite_self]
  refine ⟨s, rfl, l10, nostos_map (f := fun n : Nat => D.int n), ?_⟩
  simp only [dSeq, dNext, dIf, dOrT, dAndT, dNotT, dBl, kBl, dTru, kTru, DL.truD, dOp, dCl, s1, s2, dCons, dNil, dVar, dMov, dC, kLenN, peek, lenW, noDict, lenD, sCmp, sOrd, sEq, kEq, sIn, sIsN, nonW, sInt, sAdd, sMul, sRows, rowD, flat, dsOf, seqW, dRet, dRetN, dDrop, dBrk, dCnt, dAsg, gN, gTp, gsCons, gsNil, DL.gSub, setW, useD, nosto, nostos, fz, fzs, dCall0, argsD, argD, dLst, dTup, dIte, dAnd, dOr, dNot, dNeg, dBm, isTy, mApp, sIx, kItem, rowOf, dSl, kSl, dNo, dSo, kInt, kStr, kRepr, kListOf, kIsi, tyN, dFor, dRow, dRng1, dRng2, dComp, wipeE, dYes, dJoin, dJs, dFmt, kFmt, pkS, kI2, kAbs, okq, eqv, okqs, eqvs, kCat, dsOf_map, nostos_d, fzs_d, List.getElem?_cons_zero, List.getElem?_cons_succ, List.set_cons_zero, List.set_cons_succ, List.length_cons, List.length_nil, Option.bind_some, Option.map_some, if_true, if_false, Bool.false_eq_true, decide_eq_true_eq, true_and, List.length_map, ite_self]
  refine ⟨nostos_map (f := fun n : Nat => D.int n), _, rfl, rfl, ?_⟩
  refine call_i ?_
  simp only [dSeq, dNext, dIf, dOrT, dAndT, dNotT, dBl, kBl, dTru, kTru, DL.truD, dOp, dCl, s1, s2, dCons, dNil, dVar, dMov, dC, kLenN, peek, lenW, noDict, lenD, sCmp, sOrd, sEq, kEq, sIn, sIsN, nonW, sInt, sAdd, sMul, sRows, rowD, flat, dsOf, seqW, dRet, dRetN, dDrop, dBrk, dCnt, dAsg, gN, gTp, gsCons, gsNil, DL.gSub, setW, useD, nosto, nostos, fz, fzs, dCall0, argsD, argD, dLst, dTup, dIte, dAnd, dOr, dNot, dNeg, dBm, isTy, mApp, sIx, kItem, rowOf, dSl, kSl, dNo, dSo, kInt, kStr, kRepr, kListOf, kIsi, tyN, dFor, dRow, dRng1, dRng2, dComp, wipeE, dYes, dJoin, dJs, dFmt, kFmt, pkS, kI2, kAbs, okq, eqv, okqs, eqvs, kCat, dsOf_map, nostos_d, fzs_d, List.getElem?_cons_zero, List.getElem?_cons_succ, List.set_cons_zero, List.set_cons_succ, List.length_cons, List.length_nil, Option.bind_some, Option.map_some, if_true, if_false, Bool.false_eq_true, decide_eq_true_eq, true_and, List.length_map, ite_self]
  refine call_i ?_
  simp only [dSeq, dNext, dIf, dOrT, dAndT, dNotT, dBl, kBl, dTru, kTru, DL.truD, dOp, dCl, s1, s2, dCons, dNil, dVar, dMov, dC, kLenN, peek, lenW, noDict, lenD, sCmp, sOrd, sEq, kEq, sIn, sIsN, nonW, sInt, sAdd, sMul, sRows, rowD, flat, dsOf, seqW, dRet, dRetN, dDrop, dBrk, dCnt, dAsg, gN, gTp, gsCons, gsNil, DL.gSub, setW, useD, nosto, nostos, fz, fzs, dCall0, argsD, argD, dLst, dTup, dIte, dAnd, dOr, dNot, dNeg, dBm, isTy, mApp, sIx, kItem, rowOf, dSl, kSl, dNo, dSo, kInt, kStr, kRepr, kListOf, kIsi, tyN, dFor, dRow, dRng1, dRng2, dComp, wipeE, dYes, dJoin, dJs, dFmt, kFmt, pkS, kI2, kAbs, okq, eqv, okqs, eqvs, kCat, dsOf_map, nostos_d, fzs_d, List.getElem?_cons_zero, List.getElem?_cons_succ, List.set_cons_zero, List.set_cons_succ, List.length_cons, List.length_nil, Option.bind_some, Option.map_some, if_true, if_false, Bool.false_eq_true, decide_eq_true_eq, true_and, List.length_map, ite_self]
  refine ⟨s, rfl, l10, nostos_cutT _, ?_⟩
  simp only [dSeq, dNext, dIf, dOrT, dAndT, dNotT, dBl, kBl, dTru, kTru, DL.truD, dOp, dCl, s1, s2, dCons, dNil, dVar, dMov, dC, kLenN, peek, lenW, noDict, lenD, sCmp, sOrd, sEq, kEq, sIn, sIsN, nonW, sInt, sAdd, sMul, sRows, rowD, flat, dsOf, seqW, dRet, dRetN, dDrop, dBrk, dCnt, dAsg, gN, gTp, gsCons, gsNil, DL.gSub, setW, useD, nosto, nostos, fz, fzs, dCall0, argsD, argD, dLst, dTup, dIte, dAnd, dOr, dNot, dNeg, dBm, isTy, mApp, sIx, kItem, rowOf, dSl, kSl, dNo, dSo, kInt, kStr, kRepr, kListOf, kIsi, tyN, dFor, dRow, dRng1, dRng2, dComp, wipeE, dYes, dJoin, dJs, dFmt, kFmt, pkS, kI2, kAbs, okq, eqv, okqs, eqvs, kCat, dsOf_map, nostos_d, fzs_d, List.getElem?_cons_zero, List.getElem?_cons_succ, List.set_cons_zero, List.set_cons_succ, List.length_cons, List.length_nil, Option.bind_some, Option.map_some, if_true, if_false, Bool.false_eq_true, decide_eq_true_eq, true_and, List.length_map, ite_self, hd_num]
  refine ⟨nostos_cutT _, _, rfl, rfl, ?_⟩
  refine call_i ?_
  simp only [dSeq, dNext, dIf, dOrT, dAndT, dNotT, dBl, kBl, dTru, kTru, DL.truD, dOp, dCl, s1, s2, dCons, dNil, dVar, dMov, dC, kLenN, peek, lenW, noDict, lenD, sCmp, sOrd, sEq, kEq, sIn, sIsN, nonW, sInt, sAdd, sMul, sRows, rowD, flat, dsOf, seqW, dRet, dRetN, dDrop, dBrk, dCnt, dAsg, gN, gTp, gsCons, gsNil, DL.gSub, setW, useD, nosto, nostos, fz, fzs, dCall0, argsD, argD, dLst, dTup, dIte, dAnd, dOr, dNot, dNeg, dBm, isTy, mApp, sIx, kItem, rowOf, dSl, kSl, dNo, dSo, kInt, kStr, kRepr, kListOf, kIsi, tyN, dFor, dRow, dRng1, dRng2, dComp, wipeE, dYes, dJoin, dJs, dFmt, kFmt, pkS, kI2, kAbs, okq, eqv, okqs, eqvs, kCat, dsOf_map, nostos_d, fzs_d, List.getElem?_cons_zero, List.getElem?_cons_succ, List.set_cons_zero, List.set_cons_succ, List.length_cons, List.length_nil, Option.bind_some, Option.map_some, if_true, if_false, Bool.false_eq_true, decide_eq_true_eq, true_and, List.length_map, ite_self, hd_cut]
  refine ⟨s, rfl, l10, rfl, ?_⟩
  refine call_i ?_
  simp only [dSeq, dNext, dIf, dOrT, dAndT, dNotT, dBl, kBl, dTru, kTru, DL.truD, dOp, dCl, s1, s2, dCons, dNil, dVar, dMov, dC, kLenN, peek, lenW, noDict, lenD, sCmp, sOrd, sEq, kEq, sIn, sIsN, nonW, sInt, sAdd, sMul, sRows, rowD, flat, dsOf, seqW, dRet, dRetN, dDrop, dBrk, dCnt, dAsg, gN, gTp, gsCons, gsNil, DL.gSub, setW, useD, nosto, nostos, fz, fzs, dCall0, argsD, argD, dLst, dTup, dIte, dAnd, dOr, dNot, dNeg, dBm, isTy, mApp, sIx, kItem, rowOf, dSl, kSl, dNo, dSo, kInt, kStr, kRepr, kListOf, kIsi, tyN, dFor, dRow, dRng1, dRng2, dComp, wipeE, dYes, dJoin, dJs, dFmt, kFmt, pkS, kI2, kAbs, okq, eqv, okqs, eqvs, kCat, dsOf_map, nostos_d, fzs_d, List.getElem?_cons_zero, List.getElem?_cons_succ, List.set_cons_zero, List.set_cons_succ, List.length_cons, List.length_nil, Option.bind_some, Option.map_some, if_true, if_false, Bool.false_eq_true, decide_eq_true_eq, true_and, List.length_map, ite_self]
  refine useWs_at rfl (useWs_n ⟨szl (by simp), ?_⟩)
  simp only [dSeq, dNext, dIf, dOrT, dAndT, dNotT, dBl, kBl, dTru, kTru, DL.truD, dOp, dCl, s1, s2, dCons, dNil, dVar, dMov, dC, kLenN, peek, lenW, noDict, lenD, sCmp, sOrd, sEq, kEq, sIn, sIsN, nonW, sInt, sAdd, sMul, sRows, rowD, flat, dsOf, seqW, dRet, dRetN, dDrop, dBrk, dCnt, dAsg, gN, gTp, gsCons, gsNil, DL.gSub, setW, useD, nosto, nostos, fz, fzs, dCall0, argsD, argD, dLst, dTup, dIte, dAnd, dOr, dNot, dNeg, dBm, isTy, mApp, sIx, kItem, rowOf, dSl, kSl, dNo, dSo, kInt, kStr, kRepr, kListOf, kIsi, tyN, dFor, dRow, dRng1, dRng2, dComp, wipeE, dYes, dJoin, dJs, dFmt, kFmt, pkS, kI2, kAbs, okq, eqv, okqs, eqvs, kCat, dsOf_map, nostos_d, fzs_d, List.getElem?_cons_zero, List.getElem?_cons_succ, List.set_cons_zero, List.set_cons_succ, List.length_cons, List.length_nil, Option.bind_some, Option.map_some, if_true, if_false, Bool.false_eq_true, decide_eq_true_eq, true_and, List.length_map, ite_self]
  refine ⟨rfl, [s], rfl, by simp, fun t m => by rw [List.mem_singleton.mp m]; exact l10, nosto_spotsW _, ?_⟩
  refine useWs_i rfl (useWs_i rfl (useWs_i rfl (useWs_i (nosto_spotsW _) (useWs_n ⟨szl (by simp), useW_i ?_ ⟨by simp, ?_⟩⟩))))
  · simp only [nosto, nostos, nosto_spotsW, Bool.and_self]
  simp only [t__law_word_right_0_2, dSeq, dNext, dIf, dOrT, dAndT, dNotT, dBl, kBl, dTru, kTru, DL.truD, dOp, dCl, s1, s2, dCons, dNil, dVar, dMov, dC, kLenN, peek, lenW, noDict, lenD, sCmp, sOrd, sEq, kEq, sIn, sIsN, nonW, sInt, sAdd, sMul, sRows, rowD, flat, dsOf, seqW, dRet, dRetN, dDrop, dBrk, dCnt, dAsg, gN, gTp, gsCons, gsNil, DL.gSub, setW, useD, nosto, nostos, fz, fzs, dCall0, argsD, argD, dLst, dTup, dIte, dAnd, dOr, dNot, dNeg, dBm, isTy, mApp, sIx, kItem, rowOf, dSl, kSl, dNo, dSo, kInt, kStr, kRepr, kListOf, kIsi, tyN, dFor, dRow, dRng1, dRng2, dComp, wipeE, dYes, dJoin, dJs, dFmt, kFmt, pkS, kI2, kAbs, okq, eqv, okqs, eqvs, kCat, dsOf_map, nostos_d, fzs_d, List.getElem?_cons_zero, List.getElem?_cons_succ, List.set_cons_zero, List.set_cons_succ, List.length_cons, List.length_nil, Option.bind_some, Option.map_some, if_true, if_false, Bool.false_eq_true, decide_eq_true_eq, true_and, List.length_map, ite_self]
  refine call_i ?_
  simp only [dSeq, dNext, dIf, dOrT, dAndT, dNotT, dBl, kBl, dTru, kTru, DL.truD, dOp, dCl, s1, s2, dCons, dNil, dVar, dMov, dC, kLenN, peek, lenW, noDict, lenD, sCmp, sOrd, sEq, kEq, sIn, sIsN, nonW, sInt, sAdd, sMul, sRows, rowD, flat, dsOf, seqW, dRet, dRetN, dDrop, dBrk, dCnt, dAsg, gN, gTp, gsCons, gsNil, DL.gSub, setW, useD, nosto, nostos, fz, fzs, dCall0, argsD, argD, dLst, dTup, dIte, dAnd, dOr, dNot, dNeg, dBm, isTy, mApp, sIx, kItem, rowOf, dSl, kSl, dNo, dSo, kInt, kStr, kRepr, kListOf, kIsi, tyN, dFor, dRow, dRng1, dRng2, dComp, wipeE, dYes, dJoin, dJs, dFmt, kFmt, pkS, kI2, kAbs, okq, eqv, okqs, eqvs, kCat, dsOf_map, nostos_d, fzs_d, List.getElem?_cons_zero, List.getElem?_cons_succ, List.set_cons_zero, List.set_cons_succ, List.length_cons, List.length_nil, Option.bind_some, Option.map_some, if_true, if_false, Bool.false_eq_true, decide_eq_true_eq, true_and, List.length_map, ite_self]
  refine call_i ?_
  simp only [dSeq, dNext, dIf, dOrT, dAndT, dNotT, dBl, kBl, dTru, kTru, DL.truD, dOp, dCl, s1, s2, dCons, dNil, dVar, dMov, dC, kLenN, peek, lenW, noDict, lenD, sCmp, sOrd, sEq, kEq, sIn, sIsN, nonW, sInt, sAdd, sMul, sRows, rowD, flat, dsOf, seqW, dRet, dRetN, dDrop, dBrk, dCnt, dAsg, gN, gTp, gsCons, gsNil, DL.gSub, setW, useD, nosto, nostos, fz, fzs, dCall0, argsD, argD, dLst, dTup, dIte, dAnd, dOr, dNot, dNeg, dBm, isTy, mApp, sIx, kItem, rowOf, dSl, kSl, dNo, dSo, kInt, kStr, kRepr, kListOf, kIsi, tyN, dFor, dRow, dRng1, dRng2, dComp, wipeE, dYes, dJoin, dJs, dFmt, kFmt, pkS, kI2, kAbs, okq, eqv, okqs, eqvs, kCat, dsOf_map, nostos_d, fzs_d, List.getElem?_cons_zero, List.getElem?_cons_succ, List.set_cons_zero, List.set_cons_succ, List.length_cons, List.length_nil, Option.bind_some, Option.map_some, if_true, if_false, Bool.false_eq_true, decide_eq_true_eq, true_and, List.length_map, ite_self]
  refine useWs_i rfl (useWs_at rfl (useWs_i rfl (useWs_n ⟨szl (by simp), ?_⟩)))
  simp only [dSeq, dNext, dIf, dOrT, dAndT, dNotT, dBl, kBl, dTru, kTru, DL.truD, dOp, dCl, s1, s2, dCons, dNil, dVar, dMov, dC, kLenN, peek, lenW, noDict, lenD, sCmp, sOrd, sEq, kEq, sIn, sIsN, nonW, sInt, sAdd, sMul, sRows, rowD, flat, dsOf, seqW, dRet, dRetN, dDrop, dBrk, dCnt, dAsg, gN, gTp, gsCons, gsNil, DL.gSub, setW, useD, nosto, nostos, fz, fzs, dCall0, argsD, argD, dLst, dTup, dIte, dAnd, dOr, dNot, dNeg, dBm, isTy, mApp, sIx, kItem, rowOf, dSl, kSl, dNo, dSo, kInt, kStr, kRepr, kListOf, kIsi, tyN, dFor, dRow, dRng1, dRng2, dComp, wipeE, dYes, dJoin, dJs, dFmt, kFmt, pkS, kI2, kAbs, okq, eqv, okqs, eqvs, kCat, dsOf_map, nostos_d, fzs_d, List.getElem?_cons_zero, List.getElem?_cons_succ, List.set_cons_zero, List.set_cons_succ, List.length_cons, List.length_nil, Option.bind_some, Option.map_some, if_true, if_false, Bool.false_eq_true, decide_eq_true_eq, true_and, List.length_map, ite_self]
  refine ⟨rfl, [[55], s, [45]], rfl, by simp, fun t m => ?_, nosto_spotsW _, ?_⟩
  · simp only [List.mem_cons, List.not_mem_nil, or_false] at m
    rcases m with rfl | rfl | rfl
    · decide
    · exact l10
    · decide
  refine useWs_i (nosto_spotsW _) (useWs_n ⟨szl (by simp), ?_⟩)
  have p1 := pln_spots (rspots [s])
  have p2 := pln_spots (rspots [[55], s, [45]])
  have p3 := pln_cut (s := s) rfl
  have z1 := sz_spots (ss := [s]) rfl
  have z2 := sz_spots (ss := [[55], s, [45]]) rfl
  have z3 := sz_cut (rcut s)
  have px : pln (.lst [optI (rnum s), cutE (rcut s), .bl (named s), spotsE (rspots [s]), spotsE (rspots [[55], s, [45]])]) = true := by
    simp only [pln, plns, pln_opt, p1, p2, p3, Bool.and_self]
  have zx : szD (.lst [optI (rnum s), cutE (rcut s), .bl (named s), spotsE (rspots [s]), spotsE (rspots [[55], s, [45]])]) ≤ 100000 := by
    simp only [szD, szs, sz_opt, List.length_cons, List.length_nil] at z1 z2 ⊢
    omega
  cases h1 : rspots [s] <;> cases h2 : rspots [[55], s, [45]] <;> rw [h1, h2] at px zx <;> simp only [spotsW, spotsE, dSeq, dNext, dIf, dOrT, dAndT, dNotT, dBl, kBl, dTru, kTru, DL.truD, dOp, dCl, s1, s2, dCons, dNil, dVar, dMov, dC, kLenN, peek, lenW, noDict, lenD, sCmp, sOrd, sEq, kEq, sIn, sIsN, nonW, sInt, sAdd, sMul, sRows, rowD, flat, dsOf, seqW, dRet, dRetN, dDrop, dBrk, dCnt, dAsg, gN, gTp, gsCons, gsNil, DL.gSub, setW, useD, nosto, nostos, fz, fzs, dCall0, argsD, argD, dLst, dTup, dIte, dAnd, dOr, dNot, dNeg, dBm, isTy, mApp, sIx, kItem, rowOf, dSl, kSl, dNo, dSo, kInt, kStr, kRepr, kListOf, kIsi, tyN, dFor, dRow, dRng1, dRng2, dComp, wipeE, dYes, dJoin, dJs, dFmt, kFmt, pkS, kI2, kAbs, okq, eqv, okqs, eqvs, kCat, dsOf_map, nostos_d, fzs_d, List.getElem?_cons_zero, List.getElem?_cons_succ, List.set_cons_zero, List.set_cons_succ, List.length_cons, List.length_nil, Option.bind_some, Option.map_some, if_true, if_false, Bool.false_eq_true, decide_eq_true_eq, true_and, List.length_map, ite_self, fz_cutW, nosto_cutW, nostos_map, fzs_map, Bool.and_self, Bool.and_true]
  all_goals exact ⟨szl (by decide), _, rfl, px, zx, rfl, _, rfl, hk⟩
end Lk27

namespace Lk27
open PySem DL
theorem clear_optL (l : List (Option Nat)) : clears (l.map fun o => W.d (optI o)) = true := clears_map fun o _ => by cases o <;> rfl
theorem clear_strL (l : List (List Nat)) : clears (l.map fun s => W.d (.str s)) = true := clears_map fun _ _ => rfl
theorem okq_strs {n m : Nat} {ss : List (List Nat)} (h : ∀ s ∈ ss, okS s m) : okqs n (ss.map .str) = true := okqs_map fun s ms => by
  have : s.all (· < 1114112) = true := List.all_eq_true.mpr fun c mc => decide_eq_true (by have := (h s ms).2 c mc; omega)
  cases n <;> simpa [okq] using this
theorem p__law_places_right : ∀ ws k kx, ws.length = 1 → S__law_places_right ws k kx → t__law_places_right (retE k) (fun x _ => kx x) (startE N__law_places_right ws) := by
  rintro ws k kx - ⟨ss, rfl, hl, hs, hk⟩
  rw [se__law_places_right]
  have hq : okqs 63 (ss.map .str) = true := okq_strs hs
  have hl2 : ∀ s ∈ ss, s.length ≤ 10000 := fun s m => by have := (hs s m).1; omega
  have px := pln_spots (rspots ss)
  have zx := sz_spots (ss := ss) rfl
  have zx : szD (spotsE (rspots ss)) ≤ 100000 := by omega
  simp only [t__law_places_right, t__law_places_right_0_0, dSeq, dNext, dIf, dOrT, dAndT, dNotT, dBl, kBl, dTru, kTru, DL.truD, dOp, dCl, s1, s2, dCons, dNil, dVar, dMov, dC, kLenN, peek, lenW, noDict, lenD, sCmp, sOrd, sEq, kEq, sIn, sIsN, nonW, sInt, sAdd, sMul, sRows, rowD, flat, dsOf, seqW, dRet, dRetN, dDrop, dBrk, dCnt, dAsg, gN, gTp, gsCons, gsNil, DL.gSub, setW, useD, nosto, nostos, fz, fzs, dCall0, argsD, argD, dLst, dTup, dIte, dAnd, dOr, dNot, dNeg, dBm, isTy, mApp, sIx, kItem, rowOf, dSl, kSl, dNo, dSo, kInt, kStr, kRepr, kListOf, kIsi, tyN, dFor, dRow, dRng1, dRng2, dComp, wipeE, dYes, dJoin, dJs, dFmt, kFmt, pkS, kI2, kAbs, okq, eqv, okqs, eqvs, kCat, dsOf_map, nostos_d, fzs_d, List.getElem?_cons_zero, List.getElem?_cons_succ, List.set_cons_zero, List.set_cons_succ, List.length_cons, List.length_nil, Option.bind_some, Option.map_some, if_true, if_false, Bool.false_eq_true, decide_eq_true_eq, true_and, List.length_map, ite_self]
  refine useW_i nostos_d ⟨by simp, ?_⟩
  simp only [t__law_places_right_0_1, dSeq, dNext, dIf, dOrT, dAndT, dNotT, dBl, kBl, dTru, kTru, DL.truD, dOp, dCl, s1, s2, dCons, dNil, dVar, dMov, dC, kLenN, peek, lenW, noDict, lenD, sCmp, sOrd, sEq, kEq, sIn, sIsN, nonW, sInt, sAdd, sMul, sRows, rowD, flat, dsOf, seqW, dRet, dRetN, dDrop, dBrk, dCnt, dAsg, gN, gTp, gsCons, gsNil, DL.gSub, setW, useD, nosto, nostos, fz, fzs, dCall0, argsD, argD, dLst, dTup, dIte, dAnd, dOr, dNot, dNeg, dBm, isTy, mApp, sIx, kItem, rowOf, dSl, kSl, dNo, dSo, kInt, kStr, kRepr, kListOf, kIsi, tyN, dFor, dRow, dRng1, dRng2, dComp, wipeE, dYes, dJoin, dJs, dFmt, kFmt, pkS, kI2, kAbs, okq, eqv, okqs, eqvs, kCat, dsOf_map, nostos_d, fzs_d, List.getElem?_cons_zero, List.getElem?_cons_succ, List.set_cons_zero, List.set_cons_succ, List.length_cons, List.length_nil, Option.bind_some, Option.map_some, if_true, if_false, Bool.false_eq_true, decide_eq_true_eq, true_and, List.length_map, ite_self]
  refine call_i ?_
  simp only [dSeq, dNext, dIf, dOrT, dAndT, dNotT, dBl, kBl, dTru, kTru, DL.truD, dOp, dCl, s1, s2, dCons, dNil, dVar, dMov, dC, kLenN, peek, lenW, noDict, lenD, sCmp, sOrd, sEq, kEq, sIn, sIsN, nonW, sInt, sAdd, sMul, sRows, rowD, flat, dsOf, seqW, dRet, dRetN, dDrop, dBrk, dCnt, dAsg, gN, gTp, gsCons, gsNil, DL.gSub, setW, useD, nosto, nostos, fz, fzs, dCall0, argsD, argD, dLst, dTup, dIte, dAnd, dOr, dNot, dNeg, dBm, isTy, mApp, sIx, kItem, rowOf, dSl, kSl, dNo, dSo, kInt, kStr, kRepr, kListOf, kIsi, tyN, dFor, dRow, dRng1, dRng2, dComp, wipeE, dYes, dJoin, dJs, dFmt, kFmt, pkS, kI2, kAbs, okq, eqv, okqs, eqvs, kCat, dsOf_map, nostos_d, fzs_d, List.getElem?_cons_zero, List.getElem?_cons_succ, List.set_cons_zero, List.set_cons_succ, List.length_cons, List.length_nil, Option.bind_some, Option.map_some, if_true, if_false, Bool.false_eq_true, decide_eq_true_eq, true_and, List.length_map, ite_self]
  refine ⟨ss, rfl, by omega, hl2, nosto_spotsW _, ?_⟩
  cases hr : rspots ss with
  | none =>
    rw [hr] at px zx
    simp only [spotsW, dSeq, dNext, dIf, dOrT, dAndT, dNotT, dBl, kBl, dTru, kTru, DL.truD, dOp, dCl, s1, s2, dCons, dNil, dVar, dMov, dC, kLenN, peek, lenW, noDict, lenD, sCmp, sOrd, sEq, kEq, sIn, sIsN, nonW, sInt, sAdd, sMul, sRows, rowD, flat, dsOf, seqW, dRet, dRetN, dDrop, dBrk, dCnt, dAsg, gN, gTp, gsCons, gsNil, DL.gSub, setW, useW, useWs, useD, nosto, nostos, fz, fzs, dCall, dCall0, argsD, argD, dLst, dTup, dIte, dAnd, dOr, dNot, dNeg, dBm, isTy, mApp, sIx, kItem, rowOf, dSl, kSl, dNo, dSo, kInt, kStr, kRepr, kListOf, kIsi, tyN, dFor, dRow, dRng1, dRng2, dComp, wipeE, dYes, dJoin, dJs, dFmt, kFmt, pkS, kI2, kAbs, okq, eqv, okqs, eqvs, kCat, dsOf_map, nostos_d, fzs_d, List.getElem?_cons_zero, List.getElem?_cons_succ, List.set_cons_zero, List.set_cons_succ, List.length_cons, List.length_nil, Option.bind_some, Option.map_some, if_true, if_false, Bool.false_eq_true, decide_eq_true_eq, true_and, List.length_map, clear, flatL]
    refine ⟨by simp, ?_⟩
    simp only [t__law_places_right_0_2, dSeq, dNext, dIf, dOrT, dAndT, dNotT, dBl, kBl, dTru, kTru, DL.truD, dOp, dCl, s1, s2, dCons, dNil, dVar, dMov, dC, kLenN, peek, lenW, noDict, lenD, sCmp, sOrd, sEq, kEq, sIn, sIsN, nonW, sInt, sAdd, sMul, sRows, rowD, flat, dsOf, seqW, dRet, dRetN, dDrop, dBrk, dCnt, dAsg, gN, gTp, gsCons, gsNil, DL.gSub, setW, useD, nosto, nostos, fz, fzs, dCall0, argsD, argD, dLst, dTup, dIte, dAnd, dOr, dNot, dNeg, dBm, isTy, mApp, sIx, kItem, rowOf, dSl, kSl, dNo, dSo, kInt, kStr, kRepr, kListOf, kIsi, tyN, dFor, dRow, dRng1, dRng2, dComp, wipeE, dYes, dJoin, dJs, dFmt, kFmt, pkS, kI2, kAbs, okq, eqv, okqs, eqvs, kCat, dsOf_map, nostos_d, fzs_d, List.getElem?_cons_zero, List.getElem?_cons_succ, List.set_cons_zero, List.set_cons_succ, List.length_cons, List.length_nil, Option.bind_some, Option.map_some, if_true, if_false, Bool.false_eq_true, decide_eq_true_eq, true_and, List.length_map, ite_self]
    refine call_i ?_
    simp only [dSeq, dNext, dIf, dOrT, dAndT, dNotT, dBl, kBl, dTru, kTru, DL.truD, dOp, dCl, s1, s2, dCons, dNil, dVar, dMov, dC, kLenN, peek, lenW, noDict, lenD, sCmp, sOrd, sEq, kEq, sIn, sIsN, nonW, sInt, sAdd, sMul, sRows, rowD, flat, dsOf, seqW, dRet, dRetN, dDrop, dBrk, dCnt, dAsg, gN, gTp, gsCons, gsNil, DL.gSub, setW, useD, nosto, nostos, fz, fzs, dCall0, argsD, argD, dLst, dTup, dIte, dAnd, dOr, dNot, dNeg, dBm, isTy, mApp, sIx, kItem, rowOf, dSl, kSl, dNo, dSo, kInt, kStr, kRepr, kListOf, kIsi, tyN, dFor, dRow, dRng1, dRng2, dComp, wipeE, dYes, dJoin, dJs, dFmt, kFmt, pkS, kI2, kAbs, okq, eqv, okqs, eqvs, kCat, dsOf_map, nostos_d, fzs_d, List.getElem?_cons_zero, List.getElem?_cons_succ, List.set_cons_zero, List.set_cons_succ, List.length_cons, List.length_nil, Option.bind_some, Option.map_some, if_true, if_false, Bool.false_eq_true, decide_eq_true_eq, true_and, List.length_map, ite_self]
    refine ⟨ss, rfl, by omega, hl2, nosto_spotsW _, ?_⟩
    rw [hr]
    simp only [spotsW, dSeq, dNext, dIf, dOrT, dAndT, dNotT, dBl, kBl, dTru, kTru, DL.truD, dOp, dCl, s1, s2, dCons, dNil, dVar, dMov, dC, kLenN, peek, lenW, noDict, lenD, sCmp, sOrd, sEq, kEq, sIn, sIsN, nonW, sInt, sAdd, sMul, sRows, rowD, flat, dsOf, seqW, dRet, dRetN, dDrop, dBrk, dCnt, dAsg, gN, gTp, gsCons, gsNil, DL.gSub, setW, useW, useWs, useD, nosto, nostos, fz, fzs, dCall, dCall0, argsD, argD, dLst, dTup, dIte, dAnd, dOr, dNot, dNeg, dBm, isTy, mApp, sIx, kItem, rowOf, dSl, kSl, dNo, dSo, kInt, kStr, kRepr, kListOf, kIsi, tyN, dFor, dRow, dRng1, dRng2, dComp, wipeE, dYes, dJoin, dJs, dFmt, kFmt, pkS, kI2, kAbs, okq, eqv, okqs, eqvs, kCat, dsOf_map, nostos_d, fzs_d, List.getElem?_cons_zero, List.getElem?_cons_succ, List.set_cons_zero, List.set_cons_succ, List.length_cons, List.length_nil, Option.bind_some, Option.map_some, if_true, if_false, Bool.false_eq_true, decide_eq_true_eq, true_and, List.length_map, clear, flatL]
    refine ⟨by simp, ?_⟩
    simp only [t__law_places_right_0_3, dSeq, dNext, dIf, dOrT, dAndT, dNotT, dBl, kBl, dTru, kTru, DL.truD, dOp, dCl, s1, s2, dCons, dNil, dVar, dMov, dC, kLenN, peek, lenW, noDict, lenD, sCmp, sOrd, sEq, kEq, sIn, sIsN, nonW, sInt, sAdd, sMul, sRows, rowD, flat, dsOf, seqW, dRet, dRetN, dDrop, dBrk, dCnt, dAsg, gN, gTp, gsCons, gsNil, DL.gSub, setW, useD, nosto, nostos, fz, fzs, dCall0, argsD, argD, dLst, dTup, dIte, dAnd, dOr, dNot, dNeg, dBm, isTy, mApp, sIx, kItem, rowOf, dSl, kSl, dNo, dSo, kInt, kStr, kRepr, kListOf, kIsi, tyN, dFor, dRow, dRng1, dRng2, dComp, wipeE, dYes, dJoin, dJs, dFmt, kFmt, pkS, kI2, kAbs, okq, eqv, okqs, eqvs, kCat, dsOf_map, nostos_d, fzs_d, List.getElem?_cons_zero, List.getElem?_cons_succ, List.set_cons_zero, List.set_cons_succ, List.length_cons, List.length_nil, Option.bind_some, Option.map_some, if_true, if_false, Bool.false_eq_true, decide_eq_true_eq, true_and, List.length_map, ite_self]
    refine call_i ?_
    simp only [dSeq, dNext, dIf, dOrT, dAndT, dNotT, dBl, kBl, dTru, kTru, DL.truD, dOp, dCl, s1, s2, dCons, dNil, dVar, dMov, dC, kLenN, peek, lenW, noDict, lenD, sCmp, sOrd, sEq, kEq, sIn, sIsN, nonW, sInt, sAdd, sMul, sRows, rowD, flat, dsOf, seqW, dRet, dRetN, dDrop, dBrk, dCnt, dAsg, gN, gTp, gsCons, gsNil, DL.gSub, setW, useD, nosto, nostos, fz, fzs, dCall0, argsD, argD, dLst, dTup, dIte, dAnd, dOr, dNot, dNeg, dBm, isTy, mApp, sIx, kItem, rowOf, dSl, kSl, dNo, dSo, kInt, kStr, kRepr, kListOf, kIsi, tyN, dFor, dRow, dRng1, dRng2, dComp, wipeE, dYes, dJoin, dJs, dFmt, kFmt, pkS, kI2, kAbs, okq, eqv, okqs, eqvs, kCat, dsOf_map, nostos_d, fzs_d, List.getElem?_cons_zero, List.getElem?_cons_succ, List.set_cons_zero, List.set_cons_succ, List.length_cons, List.length_nil, Option.bind_some, Option.map_some, if_true, if_false, Bool.false_eq_true, decide_eq_true_eq, true_and, List.length_map, ite_self]
    refine ⟨_, rfl, px, zx, rfl, ?_⟩
    simp only [dSeq, dNext, dIf, dOrT, dAndT, dNotT, dBl, kBl, dTru, kTru, DL.truD, dOp, dCl, s1, s2, dCons, dNil, dVar, dMov, dC, kLenN, peek, lenW, noDict, lenD, sCmp, sOrd, sEq, kEq, sIn, sIsN, nonW, sInt, sAdd, sMul, sRows, rowD, flat, dsOf, seqW, dRet, dRetN, dDrop, dBrk, dCnt, dAsg, gN, gTp, gsCons, gsNil, DL.gSub, setW, useD, nosto, nostos, fz, fzs, dCall0, argsD, argD, dLst, dTup, dIte, dAnd, dOr, dNot, dNeg, dBm, isTy, mApp, sIx, kItem, rowOf, dSl, kSl, dNo, dSo, kInt, kStr, kRepr, kListOf, kIsi, tyN, dFor, dRow, dRng1, dRng2, dComp, wipeE, dYes, dJoin, dJs, dFmt, kFmt, pkS, kI2, kAbs, okq, eqv, okqs, eqvs, kCat, dsOf_map, nostos_d, fzs_d, List.getElem?_cons_zero, List.getElem?_cons_succ, List.set_cons_zero, List.set_cons_succ, List.length_cons, List.length_nil, Option.bind_some, Option.map_some, if_true, if_false, Bool.false_eq_true, decide_eq_true_eq, true_and, List.length_map, ite_self, clear, flatL, eqvs_refl hq, hq, Bool.not_true, Bool.true_bne]
    refine ⟨szl (by omega), ?_⟩
    simp only [t__law_places_right_0_4, dSeq, dNext, dIf, dOrT, dAndT, dNotT, dBl, kBl, dTru, kTru, DL.truD, dOp, dCl, s1, s2, dCons, dNil, dVar, dMov, dC, kLenN, peek, lenW, noDict, lenD, sCmp, sOrd, sEq, kEq, sIn, sIsN, nonW, sInt, sAdd, sMul, sRows, rowD, flat, dsOf, seqW, dRet, dRetN, dDrop, dBrk, dCnt, dAsg, gN, gTp, gsCons, gsNil, DL.gSub, setW, useD, nosto, nostos, fz, fzs, dCall0, argsD, argD, dLst, dTup, dIte, dAnd, dOr, dNot, dNeg, dBm, isTy, mApp, sIx, kItem, rowOf, dSl, kSl, dNo, dSo, kInt, kStr, kRepr, kListOf, kIsi, tyN, dFor, dRow, dRng1, dRng2, dComp, wipeE, dYes, dJoin, dJs, dFmt, kFmt, pkS, kI2, kAbs, okq, eqv, okqs, eqvs, kCat, dsOf_map, nostos_d, fzs_d, List.getElem?_cons_zero, List.getElem?_cons_succ, List.set_cons_zero, List.set_cons_succ, List.length_cons, List.length_nil, Option.bind_some, Option.map_some, if_true, if_false, Bool.false_eq_true, decide_eq_true_eq, true_and, List.length_map, ite_self, Bool.true_bne]
    simp only [t__law_places_right_0_5, dSeq, dNext, dIf, dOrT, dAndT, dNotT, dBl, kBl, dTru, kTru, DL.truD, dOp, dCl, s1, s2, dCons, dNil, dVar, dMov, dC, kLenN, peek, lenW, noDict, lenD, sCmp, sOrd, sEq, kEq, sIn, sIsN, nonW, sInt, sAdd, sMul, sRows, rowD, flat, dsOf, seqW, dRet, dRetN, dDrop, dBrk, dCnt, dAsg, gN, gTp, gsCons, gsNil, DL.gSub, setW, useW, useWs, useD, nosto, nostos, fz, fzs, dCall, dCall0, argsD, argD, dLst, dTup, dIte, dAnd, dOr, dNot, dNeg, dBm, isTy, mApp, sIx, kItem, rowOf, dSl, kSl, dNo, dSo, kInt, kStr, kRepr, kListOf, kIsi, tyN, dFor, dRow, dRng1, dRng2, dComp, wipeE, dYes, dJoin, dJs, dFmt, kFmt, pkS, kI2, kAbs, okq, eqv, okqs, eqvs, kCat, dsOf_map, nostos_d, fzs_d, List.getElem?_cons_zero, List.getElem?_cons_succ, List.set_cons_zero, List.set_cons_succ, List.length_cons, List.length_nil, Option.bind_some, Option.map_some, if_true, if_false, Bool.false_eq_true, decide_eq_true_eq, true_and, List.length_map]
    refine ⟨szl (by omega), ?_⟩
    simp only [t__law_places_right_0_6, dSeq, dNext, dIf, dOrT, dAndT, dNotT, dBl, kBl, dTru, kTru, DL.truD, dOp, dCl, s1, s2, dCons, dNil, dVar, dMov, dC, kLenN, peek, lenW, noDict, lenD, sCmp, sOrd, sEq, kEq, sIn, sIsN, nonW, sInt, sAdd, sMul, sRows, rowD, flat, dsOf, seqW, dRet, dRetN, dDrop, dBrk, dCnt, dAsg, gN, gTp, gsCons, gsNil, DL.gSub, setW, useD, nosto, nostos, fz, fzs, dCall0, argsD, argD, dLst, dTup, dIte, dAnd, dOr, dNot, dNeg, dBm, isTy, mApp, sIx, kItem, rowOf, dSl, kSl, dNo, dSo, kInt, kStr, kRepr, kListOf, kIsi, tyN, dFor, dRow, dRng1, dRng2, dComp, wipeE, dYes, dJoin, dJs, dFmt, kFmt, pkS, kI2, kAbs, okq, eqv, okqs, eqvs, kCat, dsOf_map, nostos_d, fzs_d, List.getElem?_cons_zero, List.getElem?_cons_succ, List.set_cons_zero, List.set_cons_succ, List.length_cons, List.length_nil, Option.bind_some, Option.map_some, if_true, if_false, Bool.false_eq_true, decide_eq_true_eq, true_and, List.length_map, ite_self]
    refine call_i ?_
    simp only [dSeq, dNext, dIf, dOrT, dAndT, dNotT, dBl, kBl, dTru, kTru, DL.truD, dOp, dCl, s1, s2, dCons, dNil, dVar, dMov, dC, kLenN, peek, lenW, noDict, lenD, sCmp, sOrd, sEq, kEq, sIn, sIsN, nonW, sInt, sAdd, sMul, sRows, rowD, flat, dsOf, seqW, dRet, dRetN, dDrop, dBrk, dCnt, dAsg, gN, gTp, gsCons, gsNil, DL.gSub, setW, useD, nosto, nostos, fz, fzs, dCall0, argsD, argD, dLst, dTup, dIte, dAnd, dOr, dNot, dNeg, dBm, isTy, mApp, sIx, kItem, rowOf, dSl, kSl, dNo, dSo, kInt, kStr, kRepr, kListOf, kIsi, tyN, dFor, dRow, dRng1, dRng2, dComp, wipeE, dYes, dJoin, dJs, dFmt, kFmt, pkS, kI2, kAbs, okq, eqv, okqs, eqvs, kCat, dsOf_map, nostos_d, fzs_d, List.getElem?_cons_zero, List.getElem?_cons_succ, List.set_cons_zero, List.set_cons_succ, List.length_cons, List.length_nil, Option.bind_some, Option.map_some, if_true, if_false, Bool.false_eq_true, decide_eq_true_eq, true_and, List.length_map, ite_self]
    refine call_i ?_
    simp only [dSeq, dNext, dIf, dOrT, dAndT, dNotT, dBl, kBl, dTru, kTru, DL.truD, dOp, dCl, s1, s2, dCons, dNil, dVar, dMov, dC, kLenN, peek, lenW, noDict, lenD, sCmp, sOrd, sEq, kEq, sIn, sIsN, nonW, sInt, sAdd, sMul, sRows, rowD, flat, dsOf, seqW, dRet, dRetN, dDrop, dBrk, dCnt, dAsg, gN, gTp, gsCons, gsNil, DL.gSub, setW, useD, nosto, nostos, fz, fzs, dCall0, argsD, argD, dLst, dTup, dIte, dAnd, dOr, dNot, dNeg, dBm, isTy, mApp, sIx, kItem, rowOf, dSl, kSl, dNo, dSo, kInt, kStr, kRepr, kListOf, kIsi, tyN, dFor, dRow, dRng1, dRng2, dComp, wipeE, dYes, dJoin, dJs, dFmt, kFmt, pkS, kI2, kAbs, okq, eqv, okqs, eqvs, kCat, dsOf_map, nostos_d, fzs_d, List.getElem?_cons_zero, List.getElem?_cons_succ, List.set_cons_zero, List.set_cons_succ, List.length_cons, List.length_nil, Option.bind_some, Option.map_some, if_true, if_false, Bool.false_eq_true, decide_eq_true_eq, true_and, List.length_map, ite_self]
    refine ⟨ss, rfl, by omega, hl2, nosto_spotsW _, ?_⟩
    rw [hr]
    simp only [spotsW, dSeq, dNext, dIf, dOrT, dAndT, dNotT, dBl, kBl, dTru, kTru, DL.truD, dOp, dCl, s1, s2, dCons, dNil, dVar, dMov, dC, kLenN, peek, lenW, noDict, lenD, sCmp, sOrd, sEq, kEq, sIn, sIsN, nonW, sInt, sAdd, sMul, sRows, rowD, flat, dsOf, seqW, dRet, dRetN, dDrop, dBrk, dCnt, dAsg, gN, gTp, gsCons, gsNil, DL.gSub, setW, useD, nosto, nostos, fz, fzs, dCall0, argsD, argD, dLst, dTup, dIte, dAnd, dOr, dNot, dNeg, dBm, isTy, mApp, sIx, kItem, rowOf, dSl, kSl, dNo, dSo, kInt, kStr, kRepr, kListOf, kIsi, tyN, dFor, dRow, dRng1, dRng2, dComp, wipeE, dYes, dJoin, dJs, dFmt, kFmt, pkS, kI2, kAbs, okq, eqv, okqs, eqvs, kCat, dsOf_map, nostos_d, fzs_d, List.getElem?_cons_zero, List.getElem?_cons_succ, List.set_cons_zero, List.set_cons_succ, List.length_cons, List.length_nil, Option.bind_some, Option.map_some, if_true, if_false, Bool.false_eq_true, decide_eq_true_eq, true_and, List.length_map, ite_self]
    exact ⟨_, rfl, px, zx, rfl, _, rfl, hk⟩
  | some l =>
    have ll := rspots_len hr
    rw [hr] at px zx
    simp only [spotsW, dSeq, dNext, dIf, dOrT, dAndT, dNotT, dBl, kBl, dTru, kTru, DL.truD, dOp, dCl, s1, s2, dCons, dNil, dVar, dMov, dC, kLenN, peek, lenW, noDict, lenD, sCmp, sOrd, sEq, kEq, sIn, sIsN, nonW, sInt, sAdd, sMul, sRows, rowD, flat, dsOf, seqW, dRet, dRetN, dDrop, dBrk, dCnt, dAsg, gN, gTp, gsCons, gsNil, DL.gSub, setW, useW, useWs, useD, nosto, nostos, fz, fzs, dCall, dCall0, argsD, argD, dLst, dTup, dIte, dAnd, dOr, dNot, dNeg, dBm, isTy, mApp, sIx, kItem, rowOf, dSl, kSl, dNo, dSo, kInt, kStr, kRepr, kListOf, kIsi, tyN, dFor, dRow, dRng1, dRng2, dComp, wipeE, dYes, dJoin, dJs, dFmt, kFmt, pkS, kI2, kAbs, okq, eqv, okqs, eqvs, kCat, dsOf_map, nostos_d, fzs_d, List.getElem?_cons_zero, List.getElem?_cons_succ, List.set_cons_zero, List.set_cons_succ, List.length_cons, List.length_nil, Option.bind_some, Option.map_some, if_true, if_false, Bool.false_eq_true, decide_eq_true_eq, true_and, List.length_map, clear, flatL, clear_optL, nostos_map]
    refine ⟨by simp, ?_⟩
    simp only [t__law_places_right_0_2, dSeq, dNext, dIf, dOrT, dAndT, dNotT, dBl, kBl, dTru, kTru, DL.truD, dOp, dCl, s1, s2, dCons, dNil, dVar, dMov, dC, kLenN, peek, lenW, noDict, lenD, sCmp, sOrd, sEq, kEq, sIn, sIsN, nonW, sInt, sAdd, sMul, sRows, rowD, flat, dsOf, seqW, dRet, dRetN, dDrop, dBrk, dCnt, dAsg, gN, gTp, gsCons, gsNil, DL.gSub, setW, useD, nosto, nostos, fz, fzs, dCall0, argsD, argD, dLst, dTup, dIte, dAnd, dOr, dNot, dNeg, dBm, isTy, mApp, sIx, kItem, rowOf, dSl, kSl, dNo, dSo, kInt, kStr, kRepr, kListOf, kIsi, tyN, dFor, dRow, dRng1, dRng2, dComp, wipeE, dYes, dJoin, dJs, dFmt, kFmt, pkS, kI2, kAbs, okq, eqv, okqs, eqvs, kCat, dsOf_map, nostos_d, fzs_d, List.getElem?_cons_zero, List.getElem?_cons_succ, List.set_cons_zero, List.set_cons_succ, List.length_cons, List.length_nil, Option.bind_some, Option.map_some, if_true, if_false, Bool.false_eq_true, decide_eq_true_eq, true_and, List.length_map, ite_self]
    refine call_i ?_
    simp only [dSeq, dNext, dIf, dOrT, dAndT, dNotT, dBl, kBl, dTru, kTru, DL.truD, dOp, dCl, s1, s2, dCons, dNil, dVar, dMov, dC, kLenN, peek, lenW, noDict, lenD, sCmp, sOrd, sEq, kEq, sIn, sIsN, nonW, sInt, sAdd, sMul, sRows, rowD, flat, dsOf, seqW, dRet, dRetN, dDrop, dBrk, dCnt, dAsg, gN, gTp, gsCons, gsNil, DL.gSub, setW, useD, nosto, nostos, fz, fzs, dCall0, argsD, argD, dLst, dTup, dIte, dAnd, dOr, dNot, dNeg, dBm, isTy, mApp, sIx, kItem, rowOf, dSl, kSl, dNo, dSo, kInt, kStr, kRepr, kListOf, kIsi, tyN, dFor, dRow, dRng1, dRng2, dComp, wipeE, dYes, dJoin, dJs, dFmt, kFmt, pkS, kI2, kAbs, okq, eqv, okqs, eqvs, kCat, dsOf_map, nostos_d, fzs_d, List.getElem?_cons_zero, List.getElem?_cons_succ, List.set_cons_zero, List.set_cons_succ, List.length_cons, List.length_nil, Option.bind_some, Option.map_some, if_true, if_false, Bool.false_eq_true, decide_eq_true_eq, true_and, List.length_map, ite_self]
    refine ⟨ss, rfl, by omega, hl2, nosto_spotsW _, ?_⟩
    rw [hr]
    simp only [spotsW, dSeq, dNext, dIf, dOrT, dAndT, dNotT, dBl, kBl, dTru, kTru, DL.truD, dOp, dCl, s1, s2, dCons, dNil, dVar, dMov, dC, kLenN, peek, lenW, noDict, lenD, sCmp, sOrd, sEq, kEq, sIn, sIsN, nonW, sInt, sAdd, sMul, sRows, rowD, flat, dsOf, seqW, dRet, dRetN, dDrop, dBrk, dCnt, dAsg, gN, gTp, gsCons, gsNil, DL.gSub, setW, useW, useWs, useD, nosto, nostos, fz, fzs, dCall, dCall0, argsD, argD, dLst, dTup, dIte, dAnd, dOr, dNot, dNeg, dBm, isTy, mApp, sIx, kItem, rowOf, dSl, kSl, dNo, dSo, kInt, kStr, kRepr, kListOf, kIsi, tyN, dFor, dRow, dRng1, dRng2, dComp, wipeE, dYes, dJoin, dJs, dFmt, kFmt, pkS, kI2, kAbs, okq, eqv, okqs, eqvs, kCat, dsOf_map, nostos_d, fzs_d, List.getElem?_cons_zero, List.getElem?_cons_succ, List.set_cons_zero, List.set_cons_succ, List.length_cons, List.length_nil, Option.bind_some, Option.map_some, if_true, if_false, Bool.false_eq_true, decide_eq_true_eq, true_and, List.length_map, clear, flatL, clear_optL, nostos_map]
    refine ⟨by simp, ?_⟩
    simp only [t__law_places_right_0_3, dSeq, dNext, dIf, dOrT, dAndT, dNotT, dBl, kBl, dTru, kTru, DL.truD, dOp, dCl, s1, s2, dCons, dNil, dVar, dMov, dC, kLenN, peek, lenW, noDict, lenD, sCmp, sOrd, sEq, kEq, sIn, sIsN, nonW, sInt, sAdd, sMul, sRows, rowD, flat, dsOf, seqW, dRet, dRetN, dDrop, dBrk, dCnt, dAsg, gN, gTp, gsCons, gsNil, DL.gSub, setW, useD, nosto, nostos, fz, fzs, dCall0, argsD, argD, dLst, dTup, dIte, dAnd, dOr, dNot, dNeg, dBm, isTy, mApp, sIx, kItem, rowOf, dSl, kSl, dNo, dSo, kInt, kStr, kRepr, kListOf, kIsi, tyN, dFor, dRow, dRng1, dRng2, dComp, wipeE, dYes, dJoin, dJs, dFmt, kFmt, pkS, kI2, kAbs, okq, eqv, okqs, eqvs, kCat, dsOf_map, nostos_d, fzs_d, List.getElem?_cons_zero, List.getElem?_cons_succ, List.set_cons_zero, List.set_cons_succ, List.length_cons, List.length_nil, Option.bind_some, Option.map_some, if_true, if_false, Bool.false_eq_true, decide_eq_true_eq, true_and, List.length_map, ite_self]
    refine call_i ?_
    simp only [dSeq, dNext, dIf, dOrT, dAndT, dNotT, dBl, kBl, dTru, kTru, DL.truD, dOp, dCl, s1, s2, dCons, dNil, dVar, dMov, dC, kLenN, peek, lenW, noDict, lenD, sCmp, sOrd, sEq, kEq, sIn, sIsN, nonW, sInt, sAdd, sMul, sRows, rowD, flat, dsOf, seqW, dRet, dRetN, dDrop, dBrk, dCnt, dAsg, gN, gTp, gsCons, gsNil, DL.gSub, setW, useD, nosto, nostos, fz, fzs, dCall0, argsD, argD, dLst, dTup, dIte, dAnd, dOr, dNot, dNeg, dBm, isTy, mApp, sIx, kItem, rowOf, dSl, kSl, dNo, dSo, kInt, kStr, kRepr, kListOf, kIsi, tyN, dFor, dRow, dRng1, dRng2, dComp, wipeE, dYes, dJoin, dJs, dFmt, kFmt, pkS, kI2, kAbs, okq, eqv, okqs, eqvs, kCat, dsOf_map, nostos_d, fzs_d, List.getElem?_cons_zero, List.getElem?_cons_succ, List.set_cons_zero, List.set_cons_succ, List.length_cons, List.length_nil, Option.bind_some, Option.map_some, if_true, if_false, Bool.false_eq_true, decide_eq_true_eq, true_and, List.length_map, ite_self, fzs_map]
    refine ⟨nostos_map, nostos_map, _, rfl, px, zx, rfl, ?_⟩
    simp only [dSeq, dNext, dIf, dOrT, dAndT, dNotT, dBl, kBl, dTru, kTru, DL.truD, dOp, dCl, s1, s2, dCons, dNil, dVar, dMov, dC, kLenN, peek, lenW, noDict, lenD, sCmp, sOrd, sEq, kEq, sIn, sIsN, nonW, sInt, sAdd, sMul, sRows, rowD, flat, dsOf, seqW, dRet, dRetN, dDrop, dBrk, dCnt, dAsg, gN, gTp, gsCons, gsNil, DL.gSub, setW, useD, nosto, nostos, fz, fzs, dCall0, argsD, argD, dLst, dTup, dIte, dAnd, dOr, dNot, dNeg, dBm, isTy, mApp, sIx, kItem, rowOf, dSl, kSl, dNo, dSo, kInt, kStr, kRepr, kListOf, kIsi, tyN, dFor, dRow, dRng1, dRng2, dComp, wipeE, dYes, dJoin, dJs, dFmt, kFmt, pkS, kI2, kAbs, okq, eqv, okqs, eqvs, kCat, dsOf_map, nostos_d, fzs_d, List.getElem?_cons_zero, List.getElem?_cons_succ, List.set_cons_zero, List.set_cons_succ, List.length_cons, List.length_nil, Option.bind_some, Option.map_some, if_true, if_false, Bool.false_eq_true, decide_eq_true_eq, true_and, List.length_map, ite_self, clear, flatL, eqvs_refl hq, hq, Bool.not_true, Bool.true_bne]
    refine ⟨szl (by omega), ?_⟩
    simp only [t__law_places_right_0_4, dSeq, dNext, dIf, dOrT, dAndT, dNotT, dBl, kBl, dTru, kTru, DL.truD, dOp, dCl, s1, s2, dCons, dNil, dVar, dMov, dC, kLenN, peek, lenW, noDict, lenD, sCmp, sOrd, sEq, kEq, sIn, sIsN, nonW, sInt, sAdd, sMul, sRows, rowD, flat, dsOf, seqW, dRet, dRetN, dDrop, dBrk, dCnt, dAsg, gN, gTp, gsCons, gsNil, DL.gSub, setW, useD, nosto, nostos, fz, fzs, dCall0, argsD, argD, dLst, dTup, dIte, dAnd, dOr, dNot, dNeg, dBm, isTy, mApp, sIx, kItem, rowOf, dSl, kSl, dNo, dSo, kInt, kStr, kRepr, kListOf, kIsi, tyN, dFor, dRow, dRng1, dRng2, dComp, wipeE, dYes, dJoin, dJs, dFmt, kFmt, pkS, kI2, kAbs, okq, eqv, okqs, eqvs, kCat, dsOf_map, nostos_d, fzs_d, List.getElem?_cons_zero, List.getElem?_cons_succ, List.set_cons_zero, List.set_cons_succ, List.length_cons, List.length_nil, Option.bind_some, Option.map_some, if_true, if_false, Bool.false_eq_true, decide_eq_true_eq, true_and, List.length_map, ite_self, Bool.true_bne]
    refine ite_i (fun _ => ?_) (fun h => absurd rfl h)
    simp only [t__law_places_right_1_0, dSeq, dNext, dIf, dOrT, dAndT, dNotT, dBl, kBl, dTru, kTru, DL.truD, dOp, dCl, s1, s2, dCons, dNil, dVar, dMov, dC, kLenN, peek, lenW, noDict, lenD, sCmp, sOrd, sEq, kEq, sIn, sIsN, nonW, sInt, sAdd, sMul, sRows, rowD, flat, dsOf, seqW, dRet, dRetN, dDrop, dBrk, dCnt, dAsg, gN, gTp, gsCons, gsNil, DL.gSub, setW, useW, useWs, useD, nosto, nostos, fz, fzs, dCall, dCall0, argsD, argD, dLst, dTup, dIte, dAnd, dOr, dNot, dNeg, dBm, isTy, mApp, sIx, kItem, rowOf, dSl, kSl, dNo, dSo, kInt, kStr, kRepr, kListOf, kIsi, tyN, dFor, dRow, dRng1, dRng2, dComp, wipeE, dYes, dJoin, dJs, dFmt, kFmt, pkS, kI2, kAbs, okq, eqv, okqs, eqvs, kCat, dsOf_map, nostos_d, fzs_d, List.getElem?_cons_zero, List.getElem?_cons_succ, List.set_cons_zero, List.set_cons_succ, List.length_cons, List.length_nil, Option.bind_some, Option.map_some, if_true, if_false, Bool.false_eq_true, decide_eq_true_eq, true_and, List.length_map]
    refine ⟨szl (by omega), ?_⟩
    simp only [t__law_places_right_0_5, dSeq, dNext, dIf, dOrT, dAndT, dNotT, dBl, kBl, dTru, kTru, DL.truD, dOp, dCl, s1, s2, dCons, dNil, dVar, dMov, dC, kLenN, peek, lenW, noDict, lenD, sCmp, sOrd, sEq, kEq, sIn, sIsN, nonW, sInt, sAdd, sMul, sRows, rowD, flat, dsOf, seqW, dRet, dRetN, dDrop, dBrk, dCnt, dAsg, gN, gTp, gsCons, gsNil, DL.gSub, setW, useW, useWs, useD, nosto, nostos, fz, fzs, dCall, dCall0, argsD, argD, dLst, dTup, dIte, dAnd, dOr, dNot, dNeg, dBm, isTy, mApp, sIx, kItem, rowOf, dSl, kSl, dNo, dSo, kInt, kStr, kRepr, kListOf, kIsi, tyN, dFor, dRow, dRng1, dRng2, dComp, wipeE, dYes, dJoin, dJs, dFmt, kFmt, pkS, kI2, kAbs, okq, eqv, okqs, eqvs, kCat, dsOf_map, nostos_d, fzs_d, List.getElem?_cons_zero, List.getElem?_cons_succ, List.set_cons_zero, List.set_cons_succ, List.length_cons, List.length_nil, Option.bind_some, Option.map_some, if_true, if_false, Bool.false_eq_true, decide_eq_true_eq, true_and, List.length_map]
    refine ⟨szl (by omega), ?_⟩
    simp only [t__law_places_right_0_6, dSeq, dNext, dIf, dOrT, dAndT, dNotT, dBl, kBl, dTru, kTru, DL.truD, dOp, dCl, s1, s2, dCons, dNil, dVar, dMov, dC, kLenN, peek, lenW, noDict, lenD, sCmp, sOrd, sEq, kEq, sIn, sIsN, nonW, sInt, sAdd, sMul, sRows, rowD, flat, dsOf, seqW, dRet, dRetN, dDrop, dBrk, dCnt, dAsg, gN, gTp, gsCons, gsNil, DL.gSub, setW, useD, nosto, nostos, fz, fzs, dCall0, argsD, argD, dLst, dTup, dIte, dAnd, dOr, dNot, dNeg, dBm, isTy, mApp, sIx, kItem, rowOf, dSl, kSl, dNo, dSo, kInt, kStr, kRepr, kListOf, kIsi, tyN, dFor, dRow, dRng1, dRng2, dComp, wipeE, dYes, dJoin, dJs, dFmt, kFmt, pkS, kI2, kAbs, okq, eqv, okqs, eqvs, kCat, dsOf_map, nostos_d, fzs_d, List.getElem?_cons_zero, List.getElem?_cons_succ, List.set_cons_zero, List.set_cons_succ, List.length_cons, List.length_nil, Option.bind_some, Option.map_some, if_true, if_false, Bool.false_eq_true, decide_eq_true_eq, true_and, List.length_map, ite_self]
    refine call_i ?_
    simp only [dSeq, dNext, dIf, dOrT, dAndT, dNotT, dBl, kBl, dTru, kTru, DL.truD, dOp, dCl, s1, s2, dCons, dNil, dVar, dMov, dC, kLenN, peek, lenW, noDict, lenD, sCmp, sOrd, sEq, kEq, sIn, sIsN, nonW, sInt, sAdd, sMul, sRows, rowD, flat, dsOf, seqW, dRet, dRetN, dDrop, dBrk, dCnt, dAsg, gN, gTp, gsCons, gsNil, DL.gSub, setW, useD, nosto, nostos, fz, fzs, dCall0, argsD, argD, dLst, dTup, dIte, dAnd, dOr, dNot, dNeg, dBm, isTy, mApp, sIx, kItem, rowOf, dSl, kSl, dNo, dSo, kInt, kStr, kRepr, kListOf, kIsi, tyN, dFor, dRow, dRng1, dRng2, dComp, wipeE, dYes, dJoin, dJs, dFmt, kFmt, pkS, kI2, kAbs, okq, eqv, okqs, eqvs, kCat, dsOf_map, nostos_d, fzs_d, List.getElem?_cons_zero, List.getElem?_cons_succ, List.set_cons_zero, List.set_cons_succ, List.length_cons, List.length_nil, Option.bind_some, Option.map_some, if_true, if_false, Bool.false_eq_true, decide_eq_true_eq, true_and, List.length_map, ite_self]
    refine call_i ?_
    simp only [dSeq, dNext, dIf, dOrT, dAndT, dNotT, dBl, kBl, dTru, kTru, DL.truD, dOp, dCl, s1, s2, dCons, dNil, dVar, dMov, dC, kLenN, peek, lenW, noDict, lenD, sCmp, sOrd, sEq, kEq, sIn, sIsN, nonW, sInt, sAdd, sMul, sRows, rowD, flat, dsOf, seqW, dRet, dRetN, dDrop, dBrk, dCnt, dAsg, gN, gTp, gsCons, gsNil, DL.gSub, setW, useD, nosto, nostos, fz, fzs, dCall0, argsD, argD, dLst, dTup, dIte, dAnd, dOr, dNot, dNeg, dBm, isTy, mApp, sIx, kItem, rowOf, dSl, kSl, dNo, dSo, kInt, kStr, kRepr, kListOf, kIsi, tyN, dFor, dRow, dRng1, dRng2, dComp, wipeE, dYes, dJoin, dJs, dFmt, kFmt, pkS, kI2, kAbs, okq, eqv, okqs, eqvs, kCat, dsOf_map, nostos_d, fzs_d, List.getElem?_cons_zero, List.getElem?_cons_succ, List.set_cons_zero, List.set_cons_succ, List.length_cons, List.length_nil, Option.bind_some, Option.map_some, if_true, if_false, Bool.false_eq_true, decide_eq_true_eq, true_and, List.length_map, ite_self]
    refine ⟨ss, rfl, by omega, hl2, nosto_spotsW _, ?_⟩
    rw [hr]
    simp only [spotsW, dSeq, dNext, dIf, dOrT, dAndT, dNotT, dBl, kBl, dTru, kTru, DL.truD, dOp, dCl, s1, s2, dCons, dNil, dVar, dMov, dC, kLenN, peek, lenW, noDict, lenD, sCmp, sOrd, sEq, kEq, sIn, sIsN, nonW, sInt, sAdd, sMul, sRows, rowD, flat, dsOf, seqW, dRet, dRetN, dDrop, dBrk, dCnt, dAsg, gN, gTp, gsCons, gsNil, DL.gSub, setW, useD, nosto, nostos, fz, fzs, dCall0, argsD, argD, dLst, dTup, dIte, dAnd, dOr, dNot, dNeg, dBm, isTy, mApp, sIx, kItem, rowOf, dSl, kSl, dNo, dSo, kInt, kStr, kRepr, kListOf, kIsi, tyN, dFor, dRow, dRng1, dRng2, dComp, wipeE, dYes, dJoin, dJs, dFmt, kFmt, pkS, kI2, kAbs, okq, eqv, okqs, eqvs, kCat, dsOf_map, nostos_d, fzs_d, List.getElem?_cons_zero, List.getElem?_cons_succ, List.set_cons_zero, List.set_cons_succ, List.length_cons, List.length_nil, Option.bind_some, Option.map_some, if_true, if_false, Bool.false_eq_true, decide_eq_true_eq, true_and, List.length_map, ite_self, fzs_map]
    exact ⟨nostos_map, nostos_map, _, rfl, px, zx, rfl, _, rfl, hk⟩
theorem spl_len : ∀ (l acc : List Nat), (TL.spl [32] 0 acc l).length ≤ l.length + 1
  | [], acc => by rw [TL.spl_nil]; simp
  | c :: l, acc => by
    show (if TL.pre [32] (c :: l) = true then acc :: TL.spl [32] 0 [] l else TL.spl [32] 0 (acc ++ [c]) l).length ≤ _
    split
    · have := spl_len l []; simp only [List.length_cons]; omega
    · have := spl_len l (acc ++ [c]); simp only [List.length_cons]; omega
theorem spl_in : ∀ (l acc : List Nat), ∀ p ∈ TL.spl [32] 0 acc l, p.length ≤ acc.length + l.length ∧ ∀ c ∈ p, c ∈ acc ∨ c ∈ l
  | [], acc, p, m => by
    rw [TL.spl_nil] at m
    rw [List.mem_singleton.mp m]
    exact ⟨by simp, fun c h => .inl h⟩
  | c :: l, acc, p, m => by
    have m : p ∈ (if TL.pre [32] (c :: l) = true then acc :: TL.spl [32] 0 [] l else TL.spl [32] 0 (acc ++ [c]) l) := m
    split at m
    · rcases List.mem_cons.mp m with rfl | m
      · exact ⟨by simp, fun c h => .inl h⟩
      · obtain ⟨h1, h2⟩ := spl_in l [] p m
        refine ⟨by simp at h1 ⊢; omega, fun d h => (h2 d h).elim (fun h => nomatch h) fun h => .inr (List.mem_cons_of_mem _ h)⟩
    · obtain ⟨h1, h2⟩ := spl_in l (acc ++ [c]) p m
      refine ⟨by simp at h1 ⊢; omega, fun d h => (h2 d h).elim (fun h => (List.mem_append.mp h).elim .inl fun h => .inr (by rw [List.mem_singleton.mp h]; exact List.mem_cons_self)) fun h => .inr (List.mem_cons_of_mem _ h)⟩
theorem plns_strs : ∀ {ss : List (List Nat)}, (∀ s ∈ ss, ∀ c ∈ s, c < 128) → plns (ss.map .str) = true
  | [], _ => rfl
  | s :: ss, h => by
    show (s.all (· < 128) && plns (ss.map .str)) = true
    rw [plns_strs fun t m => h t (List.mem_cons_of_mem _ m), List.all_eq_true.mpr fun c m => decide_eq_true (h s List.mem_cons_self c m)]; rfl
theorem szs_strs : ∀ {ss : List (List Nat)}, szs (ss.map .str) = ss.length
  | [] => rfl
  | s :: ss => by show 1 + szs (ss.map .str) = ss.length + 1; rw [szs_strs]; omega
theorem p__law_line_right : ∀ ws k kx, ws.length = 1 → S__law_line_right ws k kx → t__law_line_right (retE k) (fun x _ => kx x) (startE N__law_line_right ws) := by
  rintro ws k kx - ⟨s, rfl, hs, hk⟩
  rw [se__law_line_right]
  have l10 : s.length ≤ 10000 := by have := hs.1; omega
  have pl : (parts s).length ≤ 5001 := by
    unfold parts; split
    · simp
    · have := spl_len s []; have := hs.1; omega
  have px : pln (.lst ((parts s).map .str)) = true := plns_strs fun p m c mc => by
    unfold parts at m
    split at m
    · cases m
    · exact ((spl_in s [] p m).2 c mc).elim (fun h => nomatch h) (hs.2 c)
  have zx : szD (.lst ((parts s).map .str)) ≤ 100000 := by
    show 1 + szs _ ≤ _
    rw [szs_strs]; omega
  simp only [t__law_line_right, t__law_line_right_0_0, dSeq, dNext, dIf, dOrT, dAndT, dNotT, dBl, kBl, dTru, kTru, DL.truD, dOp, dCl, s1, s2, dCons, dNil, dVar, dMov, dC, kLenN, peek, lenW, noDict, lenD, sCmp, sOrd, sEq, kEq, sIn, sIsN, nonW, sInt, sAdd, sMul, sRows, rowD, flat, dsOf, seqW, dRet, dRetN, dDrop, dBrk, dCnt, dAsg, gN, gTp, gsCons, gsNil, DL.gSub, setW, useD, nosto, nostos, fz, fzs, dCall0, argsD, argD, dLst, dTup, dIte, dAnd, dOr, dNot, dNeg, dBm, isTy, mApp, sIx, kItem, rowOf, dSl, kSl, dNo, dSo, kInt, kStr, kRepr, kListOf, kIsi, tyN, dFor, dRow, dRng1, dRng2, dComp, wipeE, dYes, dJoin, dJs, dFmt, kFmt, pkS, kI2, kAbs, okq, eqv, okqs, eqvs, kCat, dsOf_map, nostos_d, fzs_d, List.getElem?_cons_zero, List.getElem?_cons_succ, List.set_cons_zero, List.set_cons_succ, List.length_cons, List.length_nil, Option.bind_some, Option.map_some, if_true, if_false, Bool.false_eq_true, decide_eq_true_eq, true_and, List.length_map, ite_self]
  refine call_i ?_
  simp only [dSeq, dNext, dIf, dOrT, dAndT, dNotT, dBl, kBl, dTru, kTru, DL.truD, dOp, dCl, s1, s2, dCons, dNil, dVar, dMov, dC, kLenN, peek, lenW, noDict, lenD, sCmp, sOrd, sEq, kEq, sIn, sIsN, nonW, sInt, sAdd, sMul, sRows, rowD, flat, dsOf, seqW, dRet, dRetN, dDrop, dBrk, dCnt, dAsg, gN, gTp, gsCons, gsNil, DL.gSub, setW, useD, nosto, nostos, fz, fzs, dCall0, argsD, argD, dLst, dTup, dIte, dAnd, dOr, dNot, dNeg, dBm, isTy, mApp, sIx, kItem, rowOf, dSl, kSl, dNo, dSo, kInt, kStr, kRepr, kListOf, kIsi, tyN, dFor, dRow, dRng1, dRng2, dComp, wipeE, dYes, dJoin, dJs, dFmt, kFmt, pkS, kI2, kAbs, okq, eqv, okqs, eqvs, kCat, dsOf_map, nostos_d, fzs_d, List.getElem?_cons_zero, List.getElem?_cons_succ, List.set_cons_zero, List.set_cons_succ, List.length_cons, List.length_nil, Option.bind_some, Option.map_some, if_true, if_false, Bool.false_eq_true, decide_eq_true_eq, true_and, List.length_map, ite_self]
  refine ⟨s, rfl, l10, nostos_map, ?_⟩
  simp only [strW, dSeq, dNext, dIf, dOrT, dAndT, dNotT, dBl, kBl, dTru, kTru, DL.truD, dOp, dCl, s1, s2, dCons, dNil, dVar, dMov, dC, kLenN, peek, lenW, noDict, lenD, sCmp, sOrd, sEq, kEq, sIn, sIsN, nonW, sInt, sAdd, sMul, sRows, rowD, flat, dsOf, seqW, dRet, dRetN, dDrop, dBrk, dCnt, dAsg, gN, gTp, gsCons, gsNil, DL.gSub, setW, useW, useWs, useD, nosto, nostos, fz, fzs, dCall, dCall0, argsD, argD, dLst, dTup, dIte, dAnd, dOr, dNot, dNeg, dBm, isTy, mApp, sIx, kItem, rowOf, dSl, kSl, dNo, dSo, kInt, kStr, kRepr, kListOf, kIsi, tyN, dFor, dRow, dRng1, dRng2, dComp, wipeE, dYes, dJoin, dJs, dFmt, kFmt, pkS, kI2, kAbs, okq, eqv, okqs, eqvs, kCat, dsOf_map, nostos_d, fzs_d, List.getElem?_cons_zero, List.getElem?_cons_succ, List.set_cons_zero, List.set_cons_succ, List.length_cons, List.length_nil, Option.bind_some, Option.map_some, if_true, if_false, Bool.false_eq_true, decide_eq_true_eq, true_and, List.length_map, clear, clear_strL, nostos_map]
  refine ⟨by simp, ?_⟩
  simp only [t__law_line_right_0_1, dSeq, dNext, dIf, dOrT, dAndT, dNotT, dBl, kBl, dTru, kTru, DL.truD, dOp, dCl, s1, s2, dCons, dNil, dVar, dMov, dC, kLenN, peek, lenW, noDict, lenD, sCmp, sOrd, sEq, kEq, sIn, sIsN, nonW, sInt, sAdd, sMul, sRows, rowD, flat, dsOf, seqW, dRet, dRetN, dDrop, dBrk, dCnt, dAsg, gN, gTp, gsCons, gsNil, DL.gSub, setW, useD, nosto, nostos, fz, fzs, dCall0, argsD, argD, dLst, dTup, dIte, dAnd, dOr, dNot, dNeg, dBm, isTy, mApp, sIx, kItem, rowOf, dSl, kSl, dNo, dSo, kInt, kStr, kRepr, kListOf, kIsi, tyN, dFor, dRow, dRng1, dRng2, dComp, wipeE, dYes, dJoin, dJs, dFmt, kFmt, pkS, kI2, kAbs, okq, eqv, okqs, eqvs, kCat, dsOf_map, nostos_d, fzs_d, List.getElem?_cons_zero, List.getElem?_cons_succ, List.set_cons_zero, List.set_cons_succ, List.length_cons, List.length_nil, Option.bind_some, Option.map_some, if_true, if_false, Bool.false_eq_true, decide_eq_true_eq, true_and, List.length_map, ite_self]
  refine call_i ?_
  simp only [dSeq, dNext, dIf, dOrT, dAndT, dNotT, dBl, kBl, dTru, kTru, DL.truD, dOp, dCl, s1, s2, dCons, dNil, dVar, dMov, dC, kLenN, peek, lenW, noDict, lenD, sCmp, sOrd, sEq, kEq, sIn, sIsN, nonW, sInt, sAdd, sMul, sRows, rowD, flat, dsOf, seqW, dRet, dRetN, dDrop, dBrk, dCnt, dAsg, gN, gTp, gsCons, gsNil, DL.gSub, setW, useD, nosto, nostos, fz, fzs, dCall0, argsD, argD, dLst, dTup, dIte, dAnd, dOr, dNot, dNeg, dBm, isTy, mApp, sIx, kItem, rowOf, dSl, kSl, dNo, dSo, kInt, kStr, kRepr, kListOf, kIsi, tyN, dFor, dRow, dRng1, dRng2, dComp, wipeE, dYes, dJoin, dJs, dFmt, kFmt, pkS, kI2, kAbs, okq, eqv, okqs, eqvs, kCat, dsOf_map, nostos_d, fzs_d, List.getElem?_cons_zero, List.getElem?_cons_succ, List.set_cons_zero, List.set_cons_succ, List.length_cons, List.length_nil, Option.bind_some, Option.map_some, if_true, if_false, Bool.false_eq_true, decide_eq_true_eq, true_and, List.length_map, ite_self]
  refine ⟨s, rfl, l10, nostos_map, ?_⟩
  simp only [strW, dSeq, dNext, dIf, dOrT, dAndT, dNotT, dBl, kBl, dTru, kTru, DL.truD, dOp, dCl, s1, s2, dCons, dNil, dVar, dMov, dC, kLenN, peek, lenW, noDict, lenD, sCmp, sOrd, sEq, kEq, sIn, sIsN, nonW, sInt, sAdd, sMul, sRows, rowD, flat, dsOf, seqW, dRet, dRetN, dDrop, dBrk, dCnt, dAsg, gN, gTp, gsCons, gsNil, DL.gSub, setW, useW, useWs, useD, nosto, nostos, fz, fzs, dCall, dCall0, argsD, argD, dLst, dTup, dIte, dAnd, dOr, dNot, dNeg, dBm, isTy, mApp, sIx, kItem, rowOf, dSl, kSl, dNo, dSo, kInt, kStr, kRepr, kListOf, kIsi, tyN, dFor, dRow, dRng1, dRng2, dComp, wipeE, dYes, dJoin, dJs, dFmt, kFmt, pkS, kI2, kAbs, okq, eqv, okqs, eqvs, kCat, dsOf_map, nostos_d, fzs_d, List.getElem?_cons_zero, List.getElem?_cons_succ, List.set_cons_zero, List.set_cons_succ, List.length_cons, List.length_nil, Option.bind_some, Option.map_some, if_true, if_false, Bool.false_eq_true, decide_eq_true_eq, true_and, List.length_map, clear, clear_strL, nostos_map]
  refine ⟨by simp, ?_⟩
  simp only [t__law_line_right_0_2, dSeq, dNext, dIf, dOrT, dAndT, dNotT, dBl, kBl, dTru, kTru, DL.truD, dOp, dCl, s1, s2, dCons, dNil, dVar, dMov, dC, kLenN, peek, lenW, noDict, lenD, sCmp, sOrd, sEq, kEq, sIn, sIsN, nonW, sInt, sAdd, sMul, sRows, rowD, flat, dsOf, seqW, dRet, dRetN, dDrop, dBrk, dCnt, dAsg, gN, gTp, gsCons, gsNil, DL.gSub, setW, useD, nosto, nostos, fz, fzs, dCall0, argsD, argD, dLst, dTup, dIte, dAnd, dOr, dNot, dNeg, dBm, isTy, mApp, sIx, kItem, rowOf, dSl, kSl, dNo, dSo, kInt, kStr, kRepr, kListOf, kIsi, tyN, dFor, dRow, dRng1, dRng2, dComp, wipeE, dYes, dJoin, dJs, dFmt, kFmt, pkS, kI2, kAbs, okq, eqv, okqs, eqvs, kCat, dsOf_map, nostos_d, fzs_d, List.getElem?_cons_zero, List.getElem?_cons_succ, List.set_cons_zero, List.set_cons_succ, List.length_cons, List.length_nil, Option.bind_some, Option.map_some, if_true, if_false, Bool.false_eq_true, decide_eq_true_eq, true_and, List.length_map, ite_self]
  refine call_i ?_
  simp only [dSeq, dNext, dIf, dOrT, dAndT, dNotT, dBl, kBl, dTru, kTru, DL.truD, dOp, dCl, s1, s2, dCons, dNil, dVar, dMov, dC, kLenN, peek, lenW, noDict, lenD, sCmp, sOrd, sEq, kEq, sIn, sIsN, nonW, sInt, sAdd, sMul, sRows, rowD, flat, dsOf, seqW, dRet, dRetN, dDrop, dBrk, dCnt, dAsg, gN, gTp, gsCons, gsNil, DL.gSub, setW, useD, nosto, nostos, fz, fzs, dCall0, argsD, argD, dLst, dTup, dIte, dAnd, dOr, dNot, dNeg, dBm, isTy, mApp, sIx, kItem, rowOf, dSl, kSl, dNo, dSo, kInt, kStr, kRepr, kListOf, kIsi, tyN, dFor, dRow, dRng1, dRng2, dComp, wipeE, dYes, dJoin, dJs, dFmt, kFmt, pkS, kI2, kAbs, okq, eqv, okqs, eqvs, kCat, dsOf_map, nostos_d, fzs_d, List.getElem?_cons_zero, List.getElem?_cons_succ, List.set_cons_zero, List.set_cons_succ, List.length_cons, List.length_nil, Option.bind_some, Option.map_some, if_true, if_false, Bool.false_eq_true, decide_eq_true_eq, true_and, List.length_map, ite_self, fzs_map]
  refine ⟨nostos_map, nostos_map, _, rfl, px, zx, rfl, ?_⟩
  simp only [dSeq, dNext, dIf, dOrT, dAndT, dNotT, dBl, kBl, dTru, kTru, DL.truD, dOp, dCl, s1, s2, dCons, dNil, dVar, dMov, dC, kLenN, peek, lenW, noDict, lenD, sCmp, sOrd, sEq, kEq, sIn, sIsN, nonW, sInt, sAdd, sMul, sRows, rowD, flat, dsOf, seqW, dRet, dRetN, dDrop, dBrk, dCnt, dAsg, gN, gTp, gsCons, gsNil, DL.gSub, setW, useD, nosto, nostos, fz, fzs, dCall0, argsD, argD, dLst, dTup, dIte, dAnd, dOr, dNot, dNeg, dBm, isTy, mApp, sIx, kItem, rowOf, dSl, kSl, dNo, dSo, kInt, kStr, kRepr, kListOf, kIsi, tyN, dFor, dRow, dRng1, dRng2, dComp, wipeE, dYes, dJoin, dJs, dFmt, kFmt, pkS, kI2, kAbs, okq, eqv, okqs, eqvs, kCat, dsOf_map, nostos_d, fzs_d, List.getElem?_cons_zero, List.getElem?_cons_succ, List.set_cons_zero, List.set_cons_succ, List.length_cons, List.length_nil, Option.bind_some, Option.map_some, if_true, if_false, Bool.false_eq_true, decide_eq_true_eq, true_and, List.length_map, ite_self, clear, flatL, Bool.not_true]
  refine ⟨Nat.zero_le _, ?_⟩
  simp only [t__law_line_right_0_3, dSeq, dNext, dIf, dOrT, dAndT, dNotT, dBl, kBl, dTru, kTru, DL.truD, dOp, dCl, s1, s2, dCons, dNil, dVar, dMov, dC, kLenN, peek, lenW, noDict, lenD, sCmp, sOrd, sEq, kEq, sIn, sIsN, nonW, sInt, sAdd, sMul, sRows, rowD, flat, dsOf, seqW, dRet, dRetN, dDrop, dBrk, dCnt, dAsg, gN, gTp, gsCons, gsNil, DL.gSub, setW, useW, useWs, useD, nosto, nostos, fz, fzs, dCall, dCall0, argsD, argD, dLst, dTup, dIte, dAnd, dOr, dNot, dNeg, dBm, isTy, mApp, sIx, kItem, rowOf, dSl, kSl, dNo, dSo, kInt, kStr, kRepr, kListOf, kIsi, tyN, dFor, dRow, dRng1, dRng2, dComp, wipeE, dYes, dJoin, dJs, dFmt, kFmt, pkS, kI2, kAbs, okq, eqv, okqs, eqvs, kCat, dsOf_map, nostos_d, fzs_d, List.getElem?_cons_zero, List.getElem?_cons_succ, List.set_cons_zero, List.set_cons_succ, List.length_cons, List.length_nil, Option.bind_some, Option.map_some, if_true, if_false, Bool.false_eq_true, decide_eq_true_eq, true_and, List.length_map]
  refine ⟨szl (by omega), ?_⟩
  simp only [t__law_line_right_0_4, dSeq, dNext, dIf, dOrT, dAndT, dNotT, dBl, kBl, dTru, kTru, DL.truD, dOp, dCl, s1, s2, dCons, dNil, dVar, dMov, dC, kLenN, peek, lenW, noDict, lenD, sCmp, sOrd, sEq, kEq, sIn, sIsN, nonW, sInt, sAdd, sMul, sRows, rowD, flat, dsOf, seqW, dRet, dRetN, dDrop, dBrk, dCnt, dAsg, gN, gTp, gsCons, gsNil, DL.gSub, setW, useD, nosto, nostos, fz, fzs, dCall0, argsD, argD, dLst, dTup, dIte, dAnd, dOr, dNot, dNeg, dBm, isTy, mApp, sIx, kItem, rowOf, dSl, kSl, dNo, dSo, kInt, kStr, kRepr, kListOf, kIsi, tyN, dFor, dRow, dRng1, dRng2, dComp, wipeE, dYes, dJoin, dJs, dFmt, kFmt, pkS, kI2, kAbs, okq, eqv, okqs, eqvs, kCat, dsOf_map, nostos_d, fzs_d, List.getElem?_cons_zero, List.getElem?_cons_succ, List.set_cons_zero, List.set_cons_succ, List.length_cons, List.length_nil, Option.bind_some, Option.map_some, if_true, if_false, Bool.false_eq_true, decide_eq_true_eq, true_and, List.length_map, ite_self]
  refine call_i ?_
  simp only [dSeq, dNext, dIf, dOrT, dAndT, dNotT, dBl, kBl, dTru, kTru, DL.truD, dOp, dCl, s1, s2, dCons, dNil, dVar, dMov, dC, kLenN, peek, lenW, noDict, lenD, sCmp, sOrd, sEq, kEq, sIn, sIsN, nonW, sInt, sAdd, sMul, sRows, rowD, flat, dsOf, seqW, dRet, dRetN, dDrop, dBrk, dCnt, dAsg, gN, gTp, gsCons, gsNil, DL.gSub, setW, useD, nosto, nostos, fz, fzs, dCall0, argsD, argD, dLst, dTup, dIte, dAnd, dOr, dNot, dNeg, dBm, isTy, mApp, sIx, kItem, rowOf, dSl, kSl, dNo, dSo, kInt, kStr, kRepr, kListOf, kIsi, tyN, dFor, dRow, dRng1, dRng2, dComp, wipeE, dYes, dJoin, dJs, dFmt, kFmt, pkS, kI2, kAbs, okq, eqv, okqs, eqvs, kCat, dsOf_map, nostos_d, fzs_d, List.getElem?_cons_zero, List.getElem?_cons_succ, List.set_cons_zero, List.set_cons_succ, List.length_cons, List.length_nil, Option.bind_some, Option.map_some, if_true, if_false, Bool.false_eq_true, decide_eq_true_eq, true_and, List.length_map, ite_self]
  refine call_i ?_
  simp only [dSeq, dNext, dIf, dOrT, dAndT, dNotT, dBl, kBl, dTru, kTru, DL.truD, dOp, dCl, s1, s2, dCons, dNil, dVar, dMov, dC, kLenN, peek, lenW, noDict, lenD, sCmp, sOrd, sEq, kEq, sIn, sIsN, nonW, sInt, sAdd, sMul, sRows, rowD, flat, dsOf, seqW, dRet, dRetN, dDrop, dBrk, dCnt, dAsg, gN, gTp, gsCons, gsNil, DL.gSub, setW, useD, nosto, nostos, fz, fzs, dCall0, argsD, argD, dLst, dTup, dIte, dAnd, dOr, dNot, dNeg, dBm, isTy, mApp, sIx, kItem, rowOf, dSl, kSl, dNo, dSo, kInt, kStr, kRepr, kListOf, kIsi, tyN, dFor, dRow, dRng1, dRng2, dComp, wipeE, dYes, dJoin, dJs, dFmt, kFmt, pkS, kI2, kAbs, okq, eqv, okqs, eqvs, kCat, dsOf_map, nostos_d, fzs_d, List.getElem?_cons_zero, List.getElem?_cons_succ, List.set_cons_zero, List.set_cons_succ, List.length_cons, List.length_nil, Option.bind_some, Option.map_some, if_true, if_false, Bool.false_eq_true, decide_eq_true_eq, true_and, List.length_map, ite_self]
  refine ⟨s, rfl, l10, nostos_map, ?_⟩
  simp only [strW, dSeq, dNext, dIf, dOrT, dAndT, dNotT, dBl, kBl, dTru, kTru, DL.truD, dOp, dCl, s1, s2, dCons, dNil, dVar, dMov, dC, kLenN, peek, lenW, noDict, lenD, sCmp, sOrd, sEq, kEq, sIn, sIsN, nonW, sInt, sAdd, sMul, sRows, rowD, flat, dsOf, seqW, dRet, dRetN, dDrop, dBrk, dCnt, dAsg, gN, gTp, gsCons, gsNil, DL.gSub, setW, useD, nosto, nostos, fz, fzs, dCall0, argsD, argD, dLst, dTup, dIte, dAnd, dOr, dNot, dNeg, dBm, isTy, mApp, sIx, kItem, rowOf, dSl, kSl, dNo, dSo, kInt, kStr, kRepr, kListOf, kIsi, tyN, dFor, dRow, dRng1, dRng2, dComp, wipeE, dYes, dJoin, dJs, dFmt, kFmt, pkS, kI2, kAbs, okq, eqv, okqs, eqvs, kCat, dsOf_map, nostos_d, fzs_d, List.getElem?_cons_zero, List.getElem?_cons_succ, List.set_cons_zero, List.set_cons_succ, List.length_cons, List.length_nil, Option.bind_some, Option.map_some, if_true, if_false, Bool.false_eq_true, decide_eq_true_eq, true_and, List.length_map, ite_self, fzs_map]
  exact ⟨nostos_map, nostos_map, _, rfl, px, zx, rfl, _, rfl, hk⟩
end Lk27

namespace Lk27
open PySem DL
abbrev kf0 : XC := fun _ _ => False
abbrev lawE (sc : W) (A : List (List Nat)) (o3 o4 o5 o6 o7 o8 o9 : Option W) : DL.Env := [some sc, some .sto, some (.d (.lst (A.map .str))), o3, o4, o5, o6, o7, o8, o9]
theorem law8 {sc : W} {A : List (List Nat)} {o3 o4 o5 o6 o7 o8 o9 : Option W} (h1 : 12 ≤ A.length) (h3 : ∀ i s, i < 12 → A[i]? = some s → okS s 60) : t_law_0_8 trueE kf0 (lawE sc A o3 o4 o5 o6 o7 o8 o9) := by
  simp only [t_law_0_8, dSeq, dNext, dIf, dOrT, dAndT, dNotT, dBl, kBl, dTru, kTru, DL.truD, dOp, dCl, s1, s2, dCons, dNil, dVar, dMov, dC, kLenN, peek, lenW, noDict, lenD, sCmp, sOrd, sEq, kEq, sIn, sIsN, nonW, sInt, sAdd, sMul, sRows, rowD, flat, dsOf, seqW, dRet, dRetN, dDrop, dBrk, dCnt, dAsg, gN, gTp, gsCons, gsNil, DL.gSub, setW, useD, nosto, nostos, fz, fzs, dCall0, argsD, argD, dLst, dTup, dIte, dAnd, dOr, dNot, dNeg, dBm, isTy, mApp, sIx, kItem, rowOf, dSl, kSl, dNo, dSo, kInt, kStr, kRepr, kListOf, kIsi, tyN, dFor, dRow, dRng1, dRng2, dComp, wipeE, dYes, dJoin, dJs, dFmt, kFmt, pkS, kI2, kAbs, okq, eqv, okqs, eqvs, kCat, dsOf_map, nostos_d, fzs_d, List.getElem?_cons_zero, List.getElem?_cons_succ, List.set_cons_zero, List.set_cons_succ, List.length_cons, List.length_nil, Option.bind_some, Option.map_some, if_true, if_false, Bool.false_eq_true, decide_eq_true_eq, true_and, List.length_map, ite_self, lawE]
  refine call_i ?_
  simp only [dSeq, dNext, dIf, dOrT, dAndT, dNotT, dBl, kBl, dTru, kTru, DL.truD, dOp, dCl, s1, s2, dCons, dNil, dVar, dMov, dC, kLenN, peek, lenW, noDict, lenD, sCmp, sOrd, sEq, kEq, sIn, sIsN, nonW, sInt, sAdd, sMul, sRows, rowD, flat, dsOf, seqW, dRet, dRetN, dDrop, dBrk, dCnt, dAsg, gN, gTp, gsCons, gsNil, DL.gSub, setW, useD, nosto, nostos, fz, fzs, dCall0, argsD, argD, dLst, dTup, dIte, dAnd, dOr, dNot, dNeg, dBm, isTy, mApp, sIx, kItem, rowOf, dSl, kSl, dNo, dSo, kInt, kStr, kRepr, kListOf, kIsi, tyN, dFor, dRow, dRng1, dRng2, dComp, wipeE, dYes, dJoin, dJs, dFmt, kFmt, pkS, kI2, kAbs, okq, eqv, okqs, eqvs, kCat, dsOf_map, nostos_d, fzs_d, List.getElem?_cons_zero, List.getElem?_cons_succ, List.set_cons_zero, List.set_cons_succ, List.length_cons, List.length_nil, Option.bind_some, Option.map_some, if_true, if_false, Bool.false_eq_true, decide_eq_true_eq, true_and, List.length_map, ite_self]
  refine ⟨[], rfl, ⟨by simp, fun c m => nomatch m⟩, rfl, ?_⟩
  simp only [dSeq, dNext, dIf, dOrT, dAndT, dNotT, dBl, kBl, dTru, kTru, DL.truD, dOp, dCl, s1, s2, dCons, dNil, dVar, dMov, dC, kLenN, peek, lenW, noDict, lenD, sCmp, sOrd, sEq, kEq, sIn, sIsN, nonW, sInt, sAdd, sMul, sRows, rowD, flat, dsOf, seqW, dRet, dRetN, dDrop, dBrk, dCnt, dAsg, gN, gTp, gsCons, gsNil, DL.gSub, setW, useD, nosto, nostos, fz, fzs, dCall0, argsD, argD, dLst, dTup, dIte, dAnd, dOr, dNot, dNeg, dBm, isTy, mApp, sIx, kItem, rowOf, dSl, kSl, dNo, dSo, kInt, kStr, kRepr, kListOf, kIsi, tyN, dFor, dRow, dRng1, dRng2, dComp, wipeE, dYes, dJoin, dJs, dFmt, kFmt, pkS, kI2, kAbs, okq, eqv, okqs, eqvs, kCat, dsOf_map, nostos_d, fzs_d, List.getElem?_cons_zero, List.getElem?_cons_succ, List.set_cons_zero, List.set_cons_succ, List.length_cons, List.length_nil, Option.bind_some, Option.map_some, if_true, if_false, Bool.false_eq_true, decide_eq_true_eq, true_and, List.length_map, ite_self, clear, flatL]
  refine ⟨Nat.zero_le _, ?_⟩
  refine call_i ?_
  simp only [dSeq, dNext, dIf, dOrT, dAndT, dNotT, dBl, kBl, dTru, kTru, DL.truD, dOp, dCl, s1, s2, dCons, dNil, dVar, dMov, dC, kLenN, peek, lenW, noDict, lenD, sCmp, sOrd, sEq, kEq, sIn, sIsN, nonW, sInt, sAdd, sMul, sRows, rowD, flat, dsOf, seqW, dRet, dRetN, dDrop, dBrk, dCnt, dAsg, gN, gTp, gsCons, gsNil, DL.gSub, setW, useD, nosto, nostos, fz, fzs, dCall0, argsD, argD, dLst, dTup, dIte, dAnd, dOr, dNot, dNeg, dBm, isTy, mApp, sIx, kItem, rowOf, dSl, kSl, dNo, dSo, kInt, kStr, kRepr, kListOf, kIsi, tyN, dFor, dRow, dRng1, dRng2, dComp, wipeE, dYes, dJoin, dJs, dFmt, kFmt, pkS, kI2, kAbs, okq, eqv, okqs, eqvs, kCat, dsOf_map, nostos_d, fzs_d, List.getElem?_cons_zero, List.getElem?_cons_succ, List.set_cons_zero, List.set_cons_succ, List.length_cons, List.length_nil, Option.bind_some, Option.map_some, if_true, if_false, Bool.false_eq_true, decide_eq_true_eq, true_and, List.length_map, ite_self]
  refine ⟨[32], rfl, ⟨by simp, fun c m => by rw [List.mem_singleton.mp m]; decide⟩, rfl, ?_⟩
  simp only [dSeq, dNext, dIf, dOrT, dAndT, dNotT, dBl, kBl, dTru, kTru, DL.truD, dOp, dCl, s1, s2, dCons, dNil, dVar, dMov, dC, kLenN, peek, lenW, noDict, lenD, sCmp, sOrd, sEq, kEq, sIn, sIsN, nonW, sInt, sAdd, sMul, sRows, rowD, flat, dsOf, seqW, dRet, dRetN, dDrop, dBrk, dCnt, dAsg, gN, gTp, gsCons, gsNil, DL.gSub, setW, useD, nosto, nostos, fz, fzs, dCall0, argsD, argD, dLst, dTup, dIte, dAnd, dOr, dNot, dNeg, dBm, isTy, mApp, sIx, kItem, rowOf, dSl, kSl, dNo, dSo, kInt, kStr, kRepr, kListOf, kIsi, tyN, dFor, dRow, dRng1, dRng2, dComp, wipeE, dYes, dJoin, dJs, dFmt, kFmt, pkS, kI2, kAbs, okq, eqv, okqs, eqvs, kCat, dsOf_map, nostos_d, fzs_d, List.getElem?_cons_zero, List.getElem?_cons_succ, List.set_cons_zero, List.set_cons_succ, List.length_cons, List.length_nil, Option.bind_some, Option.map_some, if_true, if_false, Bool.false_eq_true, decide_eq_true_eq, true_and, List.length_map, ite_self, clear, flatL]
  refine ⟨Nat.zero_le _, ?_⟩
  refine call_i ?_
  have e10 : L2.atI ((A.map D.str).map W.d) 10 = some (.d (.str A[10])) := L2.atI_nat (j := 10) (by rw [List.getElem?_map, List.getElem?_map, List.getElem?_eq_getElem (by omega)]; rfl)
  have e11 : L2.atI ((A.map D.str).map W.d) 11 = some (.d (.str A[11])) := L2.atI_nat (j := 11) (by rw [List.getElem?_map, List.getElem?_map, List.getElem?_eq_getElem (by omega)]; rfl)
  have k10 := h3 10 A[10] (by decide) (List.getElem?_eq_getElem (by omega))
  have k11 := h3 11 A[11] (by decide) (List.getElem?_eq_getElem (by omega))
  have hz := okS_app (okS_app k10 (okS_one (c := 32) (by decide))) k11
  have z1 := hz.1
  have z2 := k10.1
  have z3 := k11.1
  simp only [dSeq, dNext, dIf, dOrT, dAndT, dNotT, dBl, kBl, dTru, kTru, DL.truD, dOp, dCl, s1, s2, dCons, dNil, dVar, dMov, dC, kLenN, peek, lenW, noDict, lenD, sCmp, sOrd, sEq, kEq, sIn, sIsN, nonW, sInt, sAdd, sMul, sRows, rowD, flat, dsOf, seqW, dRet, dRetN, dDrop, dBrk, dCnt, dAsg, gN, gTp, gsCons, gsNil, DL.gSub, setW, useD, nosto, nostos, fz, fzs, dCall0, argsD, argD, dLst, dTup, dIte, dAnd, dOr, dNot, dNeg, dBm, isTy, mApp, sIx, kItem, rowOf, dSl, kSl, dNo, dSo, kInt, kStr, kRepr, kListOf, kIsi, tyN, dFor, dRow, dRng1, dRng2, dComp, wipeE, dYes, dJoin, dJs, dFmt, kFmt, pkS, kI2, kAbs, okq, eqv, okqs, eqvs, kCat, dsOf_map, nostos_d, fzs_d, List.getElem?_cons_zero, List.getElem?_cons_succ, List.set_cons_zero, List.set_cons_succ, List.length_cons, List.length_nil, Option.bind_some, Option.map_some, if_true, if_false, Bool.false_eq_true, decide_eq_true_eq, true_and, List.length_map, ite_self, e10, e11]
  simp only [List.length_append, List.length_cons, List.length_nil] at z1
  refine ⟨szl (by omega), szl (by simp only [List.length_append, List.length_cons, List.length_nil]; omega), _, rfl, okS_le hz (by decide), rfl, rfl⟩
theorem law7 {sc : W} {A : List (List Nat)} {o3 o4 o5 o6 o7 o8 o9 : Option W} (h : ∀ o9, t_law_0_8 trueE kf0 (lawE sc A o3 o4 o5 o6 o7 o8 o9)) : t_law_0_7 trueE kf0 (lawE sc A o3 o4 o5 o6 o7 o8 o9) := by
  simp only [t_law_0_7, dSeq, dNext, dIf, dOrT, dAndT, dNotT, dBl, kBl, dTru, kTru, DL.truD, dOp, dCl, s1, s2, dCons, dNil, dVar, dMov, dC, kLenN, peek, lenW, noDict, lenD, sCmp, sOrd, sEq, kEq, sIn, sIsN, nonW, sInt, sAdd, sMul, sRows, rowD, flat, dsOf, seqW, dRet, dRetN, dDrop, dBrk, dCnt, dAsg, gN, gTp, gsCons, gsNil, DL.gSub, setW, useD, nosto, nostos, fz, fzs, dCall0, argsD, argD, dLst, dTup, dIte, dAnd, dOr, dNot, dNeg, dBm, isTy, mApp, sIx, kItem, rowOf, dSl, kSl, dNo, dSo, kInt, kStr, kRepr, kListOf, kIsi, tyN, dFor, dRow, dRng1, dRng2, dComp, wipeE, dYes, dJoin, dJs, dFmt, kFmt, pkS, kI2, kAbs, okq, eqv, okqs, eqvs, kCat, dsOf_map, nostos_d, fzs_d, List.getElem?_cons_zero, List.getElem?_cons_succ, List.set_cons_zero, List.set_cons_succ, List.length_cons, List.length_nil, Option.bind_some, Option.map_some, if_true, if_false, Bool.false_eq_true, decide_eq_true_eq, true_and, List.length_map, ite_self, lawE]
  refine ⟨⟨by decide, by decide⟩, ?_⟩
  refine forL_ind (fun r env => ∃ o9, env = lawE sc A o3 o4 o5 o6 o7 o8 o9) (fun w r env K hI hK => ?_) ⟨o9, rfl⟩ (fun e hI => ?_)
  · obtain ⟨o9, rfl⟩ := hI
    simp only [t_law_1_0, dSeq, dNext, dIf, dOrT, dAndT, dNotT, dBl, kBl, dTru, kTru, DL.truD, dOp, dCl, s1, s2, dCons, dNil, dVar, dMov, dC, kLenN, peek, lenW, noDict, lenD, sCmp, sOrd, sEq, kEq, sIn, sIsN, nonW, sInt, sAdd, sMul, sRows, rowD, flat, dsOf, seqW, dRet, dRetN, dDrop, dBrk, dCnt, dAsg, gN, gTp, gsCons, gsNil, DL.gSub, setW, useD, nosto, nostos, fz, fzs, dCall0, argsD, argD, dLst, dTup, dIte, dAnd, dOr, dNot, dNeg, dBm, isTy, mApp, sIx, kItem, rowOf, dSl, kSl, dNo, dSo, kInt, kStr, kRepr, kListOf, kIsi, tyN, dFor, dRow, dRng1, dRng2, dComp, wipeE, dYes, dJoin, dJs, dFmt, kFmt, pkS, kI2, kAbs, okq, eqv, okqs, eqvs, kCat, dsOf_map, nostos_d, fzs_d, List.getElem?_cons_zero, List.getElem?_cons_succ, List.set_cons_zero, List.set_cons_succ, List.length_cons, List.length_nil, Option.bind_some, Option.map_some, if_true, if_false, Bool.false_eq_true, decide_eq_true_eq, true_and, List.length_map, ite_self, lawE]
    refine ⟨by simp, ?_⟩
    refine call_i ?_
    simp only [dSeq, dNext, dIf, dOrT, dAndT, dNotT, dBl, kBl, dTru, kTru, DL.truD, dOp, dCl, s1, s2, dCons, dNil, dVar, dMov, dC, kLenN, peek, lenW, noDict, lenD, sCmp, sOrd, sEq, kEq, sIn, sIsN, nonW, sInt, sAdd, sMul, sRows, rowD, flat, dsOf, seqW, dRet, dRetN, dDrop, dBrk, dCnt, dAsg, gN, gTp, gsCons, gsNil, DL.gSub, setW, useD, nosto, nostos, fz, fzs, dCall0, argsD, argD, dLst, dTup, dIte, dAnd, dOr, dNot, dNeg, dBm, isTy, mApp, sIx, kItem, rowOf, dSl, kSl, dNo, dSo, kInt, kStr, kRepr, kListOf, kIsi, tyN, dFor, dRow, dRng1, dRng2, dComp, wipeE, dYes, dJoin, dJs, dFmt, kFmt, pkS, kI2, kAbs, okq, eqv, okqs, eqvs, kCat, dsOf_map, nostos_d, fzs_d, List.getElem?_cons_zero, List.getElem?_cons_succ, List.set_cons_zero, List.set_cons_succ, List.length_cons, List.length_nil, Option.bind_some, Option.map_some, if_true, if_false, Bool.false_eq_true, decide_eq_true_eq, true_and, List.length_map, ite_self]
    refine call_i ?_
    simp only [dSeq, dNext, dIf, dOrT, dAndT, dNotT, dBl, kBl, dTru, kTru, DL.truD, dOp, dCl, s1, s2, dCons, dNil, dVar, dMov, dC, kLenN, peek, lenW, noDict, lenD, sCmp, sOrd, sEq, kEq, sIn, sIsN, nonW, sInt, sAdd, sMul, sRows, rowD, flat, dsOf, seqW, dRet, dRetN, dDrop, dBrk, dCnt, dAsg, gN, gTp, gsCons, gsNil, DL.gSub, setW, useD, nosto, nostos, fz, fzs, dCall0, argsD, argD, dLst, dTup, dIte, dAnd, dOr, dNot, dNeg, dBm, isTy, mApp, sIx, kItem, rowOf, dSl, kSl, dNo, dSo, kInt, kStr, kRepr, kListOf, kIsi, tyN, dFor, dRow, dRng1, dRng2, dComp, wipeE, dYes, dJoin, dJs, dFmt, kFmt, pkS, kI2, kAbs, okq, eqv, okqs, eqvs, kCat, dsOf_map, nostos_d, fzs_d, List.getElem?_cons_zero, List.getElem?_cons_succ, List.set_cons_zero, List.set_cons_succ, List.length_cons, List.length_nil, Option.bind_some, Option.map_some, if_true, if_false, Bool.false_eq_true, decide_eq_true_eq, true_and, List.length_map, ite_self]
    refine ⟨rfl, fun ss ls hs => ⟨nostos_map, ?_⟩⟩
    simp only [strW, dSeq, dNext, dIf, dOrT, dAndT, dNotT, dBl, kBl, dTru, kTru, DL.truD, dOp, dCl, s1, s2, dCons, dNil, dVar, dMov, dC, kLenN, peek, lenW, noDict, lenD, sCmp, sOrd, sEq, kEq, sIn, sIsN, nonW, sInt, sAdd, sMul, sRows, rowD, flat, dsOf, seqW, dRet, dRetN, dDrop, dBrk, dCnt, dAsg, gN, gTp, gsCons, gsNil, DL.gSub, setW, useD, nosto, nostos, fz, fzs, dCall0, argsD, argD, dLst, dTup, dIte, dAnd, dOr, dNot, dNeg, dBm, isTy, mApp, sIx, kItem, rowOf, dSl, kSl, dNo, dSo, kInt, kStr, kRepr, kListOf, kIsi, tyN, dFor, dRow, dRng1, dRng2, dComp, wipeE, dYes, dJoin, dJs, dFmt, kFmt, pkS, kI2, kAbs, okq, eqv, okqs, eqvs, kCat, dsOf_map, nostos_d, fzs_d, List.getElem?_cons_zero, List.getElem?_cons_succ, List.set_cons_zero, List.set_cons_succ, List.length_cons, List.length_nil, Option.bind_some, Option.map_some, if_true, if_false, Bool.false_eq_true, decide_eq_true_eq, true_and, List.length_map, ite_self, fzs_map]
    refine ⟨nostos_map, ss, rfl, by omega, fun s m => okS_le (hs s m) (by decide), rfl, ?_⟩
    simp only [dSeq, dNext, dIf, dOrT, dAndT, dNotT, dBl, kBl, dTru, kTru, DL.truD, dOp, dCl, s1, s2, dCons, dNil, dVar, dMov, dC, kLenN, peek, lenW, noDict, lenD, sCmp, sOrd, sEq, kEq, sIn, sIsN, nonW, sInt, sAdd, sMul, sRows, rowD, flat, dsOf, seqW, dRet, dRetN, dDrop, dBrk, dCnt, dAsg, gN, gTp, gsCons, gsNil, DL.gSub, setW, useD, nosto, nostos, fz, fzs, dCall0, argsD, argD, dLst, dTup, dIte, dAnd, dOr, dNot, dNeg, dBm, isTy, mApp, sIx, kItem, rowOf, dSl, kSl, dNo, dSo, kInt, kStr, kRepr, kListOf, kIsi, tyN, dFor, dRow, dRng1, dRng2, dComp, wipeE, dYes, dJoin, dJs, dFmt, kFmt, pkS, kI2, kAbs, okq, eqv, okqs, eqvs, kCat, dsOf_map, nostos_d, fzs_d, List.getElem?_cons_zero, List.getElem?_cons_succ, List.set_cons_zero, List.set_cons_succ, List.length_cons, List.length_nil, Option.bind_some, Option.map_some, if_true, if_false, Bool.false_eq_true, decide_eq_true_eq, true_and, List.length_map, ite_self, Bool.not_true]
    refine ⟨Nat.zero_le _, ?_⟩
    refine call_i ?_
    simp only [dSeq, dNext, dIf, dOrT, dAndT, dNotT, dBl, kBl, dTru, kTru, DL.truD, dOp, dCl, s1, s2, dCons, dNil, dVar, dMov, dC, kLenN, peek, lenW, noDict, lenD, sCmp, sOrd, sEq, kEq, sIn, sIsN, nonW, sInt, sAdd, sMul, sRows, rowD, flat, dsOf, seqW, dRet, dRetN, dDrop, dBrk, dCnt, dAsg, gN, gTp, gsCons, gsNil, DL.gSub, setW, useD, nosto, nostos, fz, fzs, dCall0, argsD, argD, dLst, dTup, dIte, dAnd, dOr, dNot, dNeg, dBm, isTy, mApp, sIx, kItem, rowOf, dSl, kSl, dNo, dSo, kInt, kStr, kRepr, kListOf, kIsi, tyN, dFor, dRow, dRng1, dRng2, dComp, wipeE, dYes, dJoin, dJs, dFmt, kFmt, pkS, kI2, kAbs, okq, eqv, okqs, eqvs, kCat, dsOf_map, nostos_d, fzs_d, List.getElem?_cons_zero, List.getElem?_cons_succ, List.set_cons_zero, List.set_cons_succ, List.length_cons, List.length_nil, Option.bind_some, Option.map_some, if_true, if_false, Bool.false_eq_true, decide_eq_true_eq, true_and, List.length_map, ite_self]
    refine call_i ?_
    simp only [dSeq, dNext, dIf, dOrT, dAndT, dNotT, dBl, kBl, dTru, kTru, DL.truD, dOp, dCl, s1, s2, dCons, dNil, dVar, dMov, dC, kLenN, peek, lenW, noDict, lenD, sCmp, sOrd, sEq, kEq, sIn, sIsN, nonW, sInt, sAdd, sMul, sRows, rowD, flat, dsOf, seqW, dRet, dRetN, dDrop, dBrk, dCnt, dAsg, gN, gTp, gsCons, gsNil, DL.gSub, setW, useD, nosto, nostos, fz, fzs, dCall0, argsD, argD, dLst, dTup, dIte, dAnd, dOr, dNot, dNeg, dBm, isTy, mApp, sIx, kItem, rowOf, dSl, kSl, dNo, dSo, kInt, kStr, kRepr, kListOf, kIsi, tyN, dFor, dRow, dRng1, dRng2, dComp, wipeE, dYes, dJoin, dJs, dFmt, kFmt, pkS, kI2, kAbs, okq, eqv, okqs, eqvs, kCat, dsOf_map, nostos_d, fzs_d, List.getElem?_cons_zero, List.getElem?_cons_succ, List.set_cons_zero, List.set_cons_succ, List.length_cons, List.length_nil, Option.bind_some, Option.map_some, if_true, if_false, Bool.false_eq_true, decide_eq_true_eq, true_and, List.length_map, ite_self]
    refine ⟨rfl, fun s hs => ⟨rfl, ?_⟩⟩
    simp only [dSeq, dNext, dIf, dOrT, dAndT, dNotT, dBl, kBl, dTru, kTru, DL.truD, dOp, dCl, s1, s2, dCons, dNil, dVar, dMov, dC, kLenN, peek, lenW, noDict, lenD, sCmp, sOrd, sEq, kEq, sIn, sIsN, nonW, sInt, sAdd, sMul, sRows, rowD, flat, dsOf, seqW, dRet, dRetN, dDrop, dBrk, dCnt, dAsg, gN, gTp, gsCons, gsNil, DL.gSub, setW, useD, nosto, nostos, fz, fzs, dCall0, argsD, argD, dLst, dTup, dIte, dAnd, dOr, dNot, dNeg, dBm, isTy, mApp, sIx, kItem, rowOf, dSl, kSl, dNo, dSo, kInt, kStr, kRepr, kListOf, kIsi, tyN, dFor, dRow, dRng1, dRng2, dComp, wipeE, dYes, dJoin, dJs, dFmt, kFmt, pkS, kI2, kAbs, okq, eqv, okqs, eqvs, kCat, dsOf_map, nostos_d, fzs_d, List.getElem?_cons_zero, List.getElem?_cons_succ, List.set_cons_zero, List.set_cons_succ, List.length_cons, List.length_nil, Option.bind_some, Option.map_some, if_true, if_false, Bool.false_eq_true, decide_eq_true_eq, true_and, List.length_map, ite_self]
    refine ⟨s, rfl, okS_le hs (by decide), rfl, ?_⟩
    simp only [dSeq, dNext, dIf, dOrT, dAndT, dNotT, dBl, kBl, dTru, kTru, DL.truD, dOp, dCl, s1, s2, dCons, dNil, dVar, dMov, dC, kLenN, peek, lenW, noDict, lenD, sCmp, sOrd, sEq, kEq, sIn, sIsN, nonW, sInt, sAdd, sMul, sRows, rowD, flat, dsOf, seqW, dRet, dRetN, dDrop, dBrk, dCnt, dAsg, gN, gTp, gsCons, gsNil, DL.gSub, setW, useD, nosto, nostos, fz, fzs, dCall0, argsD, argD, dLst, dTup, dIte, dAnd, dOr, dNot, dNeg, dBm, isTy, mApp, sIx, kItem, rowOf, dSl, kSl, dNo, dSo, kInt, kStr, kRepr, kListOf, kIsi, tyN, dFor, dRow, dRng1, dRng2, dComp, wipeE, dYes, dJoin, dJs, dFmt, kFmt, pkS, kI2, kAbs, okq, eqv, okqs, eqvs, kCat, dsOf_map, nostos_d, fzs_d, List.getElem?_cons_zero, List.getElem?_cons_succ, List.set_cons_zero, List.set_cons_succ, List.length_cons, List.length_nil, Option.bind_some, Option.map_some, if_true, if_false, Bool.false_eq_true, decide_eq_true_eq, true_and, List.length_map, ite_self, Bool.not_true]
    exact ⟨Nat.zero_le _, hK _ ⟨_, rfl⟩⟩
  · obtain ⟨o9, rfl⟩ := hI
    exact h o9
theorem law6 {sc : W} {A : List (List Nat)} {o3 o4 o5 o6 o7 o8 o9 : Option W} (hl : A.length ≤ 100) (hs : ∀ s ∈ A, okS s 5000) (h : t_law_0_7 trueE kf0 (lawE sc A o3 o4 o5 o6 o7 o8 o9)) : t_law_0_6 trueE kf0 (lawE sc A o3 o4 o5 o6 o7 o8 o9) := by
  simp only [t_law_0_6, dSeq, dNext, dIf, dOrT, dAndT, dNotT, dBl, kBl, dTru, kTru, DL.truD, dOp, dCl, s1, s2, dCons, dNil, dVar, dMov, dC, kLenN, peek, lenW, noDict, lenD, sCmp, sOrd, sEq, kEq, sIn, sIsN, nonW, sInt, sAdd, sMul, sRows, rowD, flat, dsOf, seqW, dRet, dRetN, dDrop, dBrk, dCnt, dAsg, gN, gTp, gsCons, gsNil, DL.gSub, setW, useD, nosto, nostos, fz, fzs, dCall0, argsD, argD, dLst, dTup, dIte, dAnd, dOr, dNot, dNeg, dBm, isTy, mApp, sIx, kItem, rowOf, dSl, kSl, dNo, dSo, kInt, kStr, kRepr, kListOf, kIsi, tyN, dFor, dRow, dRng1, dRng2, dComp, wipeE, dYes, dJoin, dJs, dFmt, kFmt, pkS, kI2, kAbs, okq, eqv, okqs, eqvs, kCat, dsOf_map, nostos_d, fzs_d, List.getElem?_cons_zero, List.getElem?_cons_succ, List.set_cons_zero, List.set_cons_succ, List.length_cons, List.length_nil, Option.bind_some, Option.map_some, if_true, if_false, Bool.false_eq_true, decide_eq_true_eq, true_and, List.length_map, ite_self, lawE]
  refine call_i ?_
  simp only [dSeq, dNext, dIf, dOrT, dAndT, dNotT, dBl, kBl, dTru, kTru, DL.truD, dOp, dCl, s1, s2, dCons, dNil, dVar, dMov, dC, kLenN, peek, lenW, noDict, lenD, sCmp, sOrd, sEq, kEq, sIn, sIsN, nonW, sInt, sAdd, sMul, sRows, rowD, flat, dsOf, seqW, dRet, dRetN, dDrop, dBrk, dCnt, dAsg, gN, gTp, gsCons, gsNil, DL.gSub, setW, useD, nosto, nostos, fz, fzs, dCall0, argsD, argD, dLst, dTup, dIte, dAnd, dOr, dNot, dNeg, dBm, isTy, mApp, sIx, kItem, rowOf, dSl, kSl, dNo, dSo, kInt, kStr, kRepr, kListOf, kIsi, tyN, dFor, dRow, dRng1, dRng2, dComp, wipeE, dYes, dJoin, dJs, dFmt, kFmt, pkS, kI2, kAbs, okq, eqv, okqs, eqvs, kCat, dsOf_map, nostos_d, fzs_d, List.getElem?_cons_zero, List.getElem?_cons_succ, List.set_cons_zero, List.set_cons_succ, List.length_cons, List.length_nil, Option.bind_some, Option.map_some, if_true, if_false, Bool.false_eq_true, decide_eq_true_eq, true_and, List.length_map, ite_self]
  refine useWs_n ⟨Nat.zero_le _, ?_⟩
  simp only [dSeq, dNext, dIf, dOrT, dAndT, dNotT, dBl, kBl, dTru, kTru, DL.truD, dOp, dCl, s1, s2, dCons, dNil, dVar, dMov, dC, kLenN, peek, lenW, noDict, lenD, sCmp, sOrd, sEq, kEq, sIn, sIsN, nonW, sInt, sAdd, sMul, sRows, rowD, flat, dsOf, seqW, dRet, dRetN, dDrop, dBrk, dCnt, dAsg, gN, gTp, gsCons, gsNil, DL.gSub, setW, useD, nosto, nostos, fz, fzs, dCall0, argsD, argD, dLst, dTup, dIte, dAnd, dOr, dNot, dNeg, dBm, isTy, mApp, sIx, kItem, rowOf, dSl, kSl, dNo, dSo, kInt, kStr, kRepr, kListOf, kIsi, tyN, dFor, dRow, dRng1, dRng2, dComp, wipeE, dYes, dJoin, dJs, dFmt, kFmt, pkS, kI2, kAbs, okq, eqv, okqs, eqvs, kCat, dsOf_map, nostos_d, fzs_d, List.getElem?_cons_zero, List.getElem?_cons_succ, List.set_cons_zero, List.set_cons_succ, List.length_cons, List.length_nil, Option.bind_some, Option.map_some, if_true, if_false, Bool.false_eq_true, decide_eq_true_eq, true_and, List.length_map, ite_self]
  refine ⟨[], rfl, by simp, fun s m => (by simp at m), rfl, ?_⟩
  simp only [dSeq, dNext, dIf, dOrT, dAndT, dNotT, dBl, kBl, dTru, kTru, DL.truD, dOp, dCl, s1, s2, dCons, dNil, dVar, dMov, dC, kLenN, peek, lenW, noDict, lenD, sCmp, sOrd, sEq, kEq, sIn, sIsN, nonW, sInt, sAdd, sMul, sRows, rowD, flat, dsOf, seqW, dRet, dRetN, dDrop, dBrk, dCnt, dAsg, gN, gTp, gsCons, gsNil, DL.gSub, setW, useD, nosto, nostos, fz, fzs, dCall0, argsD, argD, dLst, dTup, dIte, dAnd, dOr, dNot, dNeg, dBm, isTy, mApp, sIx, kItem, rowOf, dSl, kSl, dNo, dSo, kInt, kStr, kRepr, kListOf, kIsi, tyN, dFor, dRow, dRng1, dRng2, dComp, wipeE, dYes, dJoin, dJs, dFmt, kFmt, pkS, kI2, kAbs, okq, eqv, okqs, eqvs, kCat, dsOf_map, nostos_d, fzs_d, List.getElem?_cons_zero, List.getElem?_cons_succ, List.set_cons_zero, List.set_cons_succ, List.length_cons, List.length_nil, Option.bind_some, Option.map_some, if_true, if_false, Bool.false_eq_true, decide_eq_true_eq, true_and, List.length_map, ite_self, Bool.not_true]
  refine ⟨Nat.zero_le _, ?_⟩
  refine call_i ?_
  have ec : cutL (A.map D.str) none (some 9) = (A.take 9).map D.str := by
    unfold cutL
    rw [HT.sIx_none, show HT.sIx (A.map D.str).length (A.map D.str).length (some 9) = min 9 (A.map D.str).length from HT.sIx_nat _ _ 9, List.drop_zero, List.map_take, List.length_map, Nat.sub_zero]
    rw [← List.length_map D.str, ← List.take_eq_take_min]
  simp only [dSeq, dNext, dIf, dOrT, dAndT, dNotT, dBl, kBl, dTru, kTru, DL.truD, dOp, dCl, s1, s2, dCons, dNil, dVar, dMov, dC, kLenN, peek, lenW, noDict, lenD, sCmp, sOrd, sEq, kEq, sIn, sIsN, nonW, sInt, sAdd, sMul, sRows, rowD, flat, dsOf, seqW, dRet, dRetN, dDrop, dBrk, dCnt, dAsg, gN, gTp, gsCons, gsNil, DL.gSub, setW, useD, nosto, nostos, fz, fzs, dCall0, argsD, argD, dLst, dTup, dIte, dAnd, dOr, dNot, dNeg, dBm, isTy, mApp, sIx, kItem, rowOf, dSl, kSl, dNo, dSo, kInt, kStr, kRepr, kListOf, kIsi, tyN, dFor, dRow, dRng1, dRng2, dComp, wipeE, dYes, dJoin, dJs, dFmt, kFmt, pkS, kI2, kAbs, okq, eqv, okqs, eqvs, kCat, dsOf_map, nostos_d, fzs_d, List.getElem?_cons_zero, List.getElem?_cons_succ, List.set_cons_zero, List.set_cons_succ, List.length_cons, List.length_nil, Option.bind_some, Option.map_some, if_true, if_false, Bool.false_eq_true, decide_eq_true_eq, true_and, List.length_map, ite_self, ec]
  refine ⟨A.take 9, rfl, by rw [List.length_take]; omega, fun s m => hs s (List.mem_of_mem_take m), rfl, ?_⟩
  simp only [dSeq, dNext, dIf, dOrT, dAndT, dNotT, dBl, kBl, dTru, kTru, DL.truD, dOp, dCl, s1, s2, dCons, dNil, dVar, dMov, dC, kLenN, peek, lenW, noDict, lenD, sCmp, sOrd, sEq, kEq, sIn, sIsN, nonW, sInt, sAdd, sMul, sRows, rowD, flat, dsOf, seqW, dRet, dRetN, dDrop, dBrk, dCnt, dAsg, gN, gTp, gsCons, gsNil, DL.gSub, setW, useD, nosto, nostos, fz, fzs, dCall0, argsD, argD, dLst, dTup, dIte, dAnd, dOr, dNot, dNeg, dBm, isTy, mApp, sIx, kItem, rowOf, dSl, kSl, dNo, dSo, kInt, kStr, kRepr, kListOf, kIsi, tyN, dFor, dRow, dRng1, dRng2, dComp, wipeE, dYes, dJoin, dJs, dFmt, kFmt, pkS, kI2, kAbs, okq, eqv, okqs, eqvs, kCat, dsOf_map, nostos_d, fzs_d, List.getElem?_cons_zero, List.getElem?_cons_succ, List.set_cons_zero, List.set_cons_succ, List.length_cons, List.length_nil, Option.bind_some, Option.map_some, if_true, if_false, Bool.false_eq_true, decide_eq_true_eq, true_and, List.length_map, ite_self, Bool.not_true]
  exact ⟨Nat.zero_le _, h⟩
theorem rspot_num {n : Nat} (h : n < 10) : rspot (TL.numL n) = some (some n) := by
  rw [TL.numL_lt h]
  unfold rspot
  rw [if_neg (by simp; omega)]
  have : isDig (48 + n) = true := by unfold isDig; rw [decide_eq_true (by omega), decide_eq_true (by omega)]; rfl
  show (if isDig (48 + n) = true then some (some (48 + n - 48)) else none) = _
  rw [if_pos this, Nat.add_sub_cancel_left]
theorem spot_back (o : Option Nat) (h : ∀ n, o = some n → n < 10) : rspots [match o with | some n => TL.numL n | none => [45]] = some [o] := by
  cases o with
  | none => rfl
  | some n =>
    show (match rspot (TL.numL n) with | some o => (rspots []).map (o :: ·) | none => none) = _
    rw [rspot_num (h n rfl)]; rfl
theorem numL_ok {n : Nat} (h : n < 10 ^ 9) : okS (TL.numL n) 9 := ⟨numL9 h, fun c m => by have := TL.numL_digits n c m; omega⟩
theorem law5 {sc : W} {A : List (List Nat)} {o3 o4 o5 o6 o7 o8 o9 : Option W} (h : ∀ o3 o7 o8 o9, t_law_0_6 trueE kf0 (lawE sc A o3 o4 o5 o6 o7 o8 o9)) : t_law_0_5 trueE kf0 (lawE sc A o3 o4 o5 o6 o7 o8 o9) := by
  simp only [t_law_0_5, dSeq, dNext, dIf, dOrT, dAndT, dNotT, dBl, kBl, dTru, kTru, DL.truD, dOp, dCl, s1, s2, dCons, dNil, dVar, dMov, dC, kLenN, peek, lenW, noDict, lenD, sCmp, sOrd, sEq, kEq, sIn, sIsN, nonW, sInt, sAdd, sMul, sRows, rowD, flat, dsOf, seqW, dRet, dRetN, dDrop, dBrk, dCnt, dAsg, gN, gTp, gsCons, gsNil, DL.gSub, setW, useW, useWs, useD, nosto, nostos, fz, fzs, dCall, dCall0, argsD, argD, dLst, dTup, dIte, dAnd, dOr, dNot, dNeg, dBm, isTy, mApp, sIx, kItem, rowOf, dSl, kSl, dNo, dSo, kInt, kStr, kRepr, kListOf, kIsi, tyN, dFor, dRow, dRng1, dRng2, dComp, wipeE, dYes, dJoin, dJs, dFmt, kFmt, pkS, kI2, kAbs, okq, eqv, okqs, eqvs, kCat, dsOf_map, nostos_d, fzs_d, List.getElem?_cons_zero, List.getElem?_cons_succ, List.set_cons_zero, List.set_cons_succ, List.length_cons, List.length_nil, Option.bind_some, Option.map_some, if_true, if_false, Bool.false_eq_true, decide_eq_true_eq, true_and, List.length_map, useWs, lawE]
  refine ⟨szl (by decide), ⟨by decide, by decide⟩, ?_⟩
  rw [rangeW0]
  refine compL_fun (fun w => w) (fun w hw acc K hK ha => ?_) (by show _ ≤ _; unfold cntW; rw [List.length_map, List.length_range']; exact szl (by decide)) ?_
  · obtain ⟨i, _, rfl⟩ := List.mem_map.mp hw
    simp only [compStep, dSeq, dNext, dIf, dOrT, dAndT, dNotT, dBl, kBl, dTru, kTru, DL.truD, dOp, dCl, s1, s2, dCons, dNil, dVar, dMov, dC, kLenN, peek, lenW, noDict, lenD, sCmp, sOrd, sEq, kEq, sIn, sIsN, nonW, sInt, sAdd, sMul, sRows, rowD, flat, dsOf, seqW, dRet, dRetN, dDrop, dBrk, dCnt, dAsg, gN, gTp, gsCons, gsNil, DL.gSub, setW, useW, useWs, useD, nosto, nostos, fz, fzs, dCall, dCall0, argsD, argD, dLst, dTup, dIte, dAnd, dOr, dNot, dNeg, dBm, isTy, mApp, sIx, kItem, rowOf, dSl, kSl, dNo, dSo, kInt, kStr, kRepr, kListOf, kIsi, tyN, dFor, dRow, dRng1, dRng2, dComp, wipeE, dYes, dJoin, dJs, dFmt, kFmt, pkS, kI2, kAbs, okq, eqv, okqs, eqvs, kCat, dsOf_map, nostos_d, fzs_d, List.getElem?_cons_zero, List.getElem?_cons_succ, List.set_cons_zero, List.set_cons_succ, List.length_cons, List.length_nil, Option.bind_some, Option.map_some, if_true, if_false, Bool.false_eq_true, decide_eq_true_eq, true_and, List.length_map]
    exact ⟨by simp, ha, hK⟩
  rw [List.nil_append, List.map_id']
  have ed : dsOf (cntW 0 (Int.toNat 10)) = some ((List.range' 0 (Int.toNat 10)).map fun i : Nat => D.int (i : Int)) := dsOf_map2 (f := fun i : Nat => D.int (i : Int))
  simp only [dSeq, dNext, dIf, dOrT, dAndT, dNotT, dBl, kBl, dTru, kTru, DL.truD, dOp, dCl, s1, s2, dCons, dNil, dVar, dMov, dC, kLenN, peek, lenW, noDict, lenD, sCmp, sOrd, sEq, kEq, sIn, sIsN, nonW, sInt, sAdd, sMul, sRows, rowD, flat, dsOf, seqW, dRet, dRetN, dDrop, dBrk, dCnt, dAsg, gN, gTp, gsCons, gsNil, DL.gSub, setW, useW, useWs, useD, nosto, nostos, fz, fzs, dCall, dCall0, argsD, argD, dLst, dTup, dIte, dAnd, dOr, dNot, dNeg, dBm, isTy, mApp, sIx, kItem, rowOf, dSl, kSl, dNo, dSo, kInt, kStr, kRepr, kListOf, kIsi, tyN, dFor, dRow, dRng1, dRng2, dComp, wipeE, dYes, dJoin, dJs, dFmt, kFmt, pkS, kI2, kAbs, okq, eqv, okqs, eqvs, kCat, dsOf_map, nostos_d, fzs_d, List.getElem?_cons_zero, List.getElem?_cons_succ, List.set_cons_zero, List.set_cons_succ, List.length_cons, List.length_nil, Option.bind_some, Option.map_some, if_true, if_false, Bool.false_eq_true, decide_eq_true_eq, true_and, List.length_map, ed]
  refine ⟨szl (by simp), ?_⟩
  refine forL_ind (fun r env => ∃ (os : List (Option Nat)) (o3 o7 o8 o9 : Option W), r = os.map (fun o => W.d (optI o)) ∧ (∀ o ∈ os, ∀ n, o = some n → n < 10) ∧ env = lawE sc A o3 o4 o5 o6 o7 o8 o9) (fun w r env K hI hK => ?_) ⟨none :: (List.range' 0 10).map some, o3, o7, o8, none, ?_, fun o m n e => ?_, rfl⟩ (fun e hI => ?_)
  · obtain ⟨os, o3, o7, o8, o9, er, ho, rfl⟩ := hI
    cases os with
    | nil => cases er
    | cons o os =>
      cases er
      have h10 := ho o List.mem_cons_self
      have h9 : ∀ n, o = some n → n < 10 ^ 9 := fun n e => Nat.lt_of_lt_of_le (h10 n e) (by decide)
      have next : ∀ o8, K (lawE sc A (some (.d (.str (match o with | some n => TL.numL n | none => [45])))) o4 o5 o6 (some (.d (optI o))) o8 o9) := fun o8 => hK _ ⟨os, _, _, _, _, rfl, fun q m => ho q (List.mem_cons_of_mem _ m), rfl⟩
      have fin : ∀ w : List Nat, okS w 9 → rspots [w] = some [o] → K (lawE sc A (some (.d (.str w))) o4 o5 o6 (some (.d (optI o))) (some (.d (.str w))) o9) → t_law_4_3 { nx := K, rt := trueE.rt, bk := fun e1 => t_law_0_6 trueE kf0 e1, ct := K } kf0 (lawE sc A (some (.d (.str w))) o4 o5 o6 (some (.d (optI o))) (some (.d (.str w))) o9) := fun w hw hr hk => by
        simp only [t_law_4_3, dSeq, dNext, dIf, dOrT, dAndT, dNotT, dBl, kBl, dTru, kTru, DL.truD, dOp, dCl, s1, s2, dCons, dNil, dVar, dMov, dC, kLenN, peek, lenW, noDict, lenD, sCmp, sOrd, sEq, kEq, sIn, sIsN, nonW, sInt, sAdd, sMul, sRows, rowD, flat, dsOf, seqW, dRet, dRetN, dDrop, dBrk, dCnt, dAsg, gN, gTp, gsCons, gsNil, DL.gSub, setW, useD, nosto, nostos, fz, fzs, dCall0, argsD, argD, dLst, dTup, dIte, dAnd, dOr, dNot, dNeg, dBm, isTy, mApp, sIx, kItem, rowOf, dSl, kSl, dNo, dSo, kInt, kStr, kRepr, kListOf, kIsi, tyN, dFor, dRow, dRng1, dRng2, dComp, wipeE, dYes, dJoin, dJs, dFmt, kFmt, pkS, kI2, kAbs, okq, eqv, okqs, eqvs, kCat, dsOf_map, nostos_d, fzs_d, List.getElem?_cons_zero, List.getElem?_cons_succ, List.set_cons_zero, List.set_cons_succ, List.length_cons, List.length_nil, Option.bind_some, Option.map_some, if_true, if_false, Bool.false_eq_true, decide_eq_true_eq, true_and, List.length_map, ite_self, lawE]
        refine call_i ?_
        simp only [dSeq, dNext, dIf, dOrT, dAndT, dNotT, dBl, kBl, dTru, kTru, DL.truD, dOp, dCl, s1, s2, dCons, dNil, dVar, dMov, dC, kLenN, peek, lenW, noDict, lenD, sCmp, sOrd, sEq, kEq, sIn, sIsN, nonW, sInt, sAdd, sMul, sRows, rowD, flat, dsOf, seqW, dRet, dRetN, dDrop, dBrk, dCnt, dAsg, gN, gTp, gsCons, gsNil, DL.gSub, setW, useD, nosto, nostos, fz, fzs, dCall0, argsD, argD, dLst, dTup, dIte, dAnd, dOr, dNot, dNeg, dBm, isTy, mApp, sIx, kItem, rowOf, dSl, kSl, dNo, dSo, kInt, kStr, kRepr, kListOf, kIsi, tyN, dFor, dRow, dRng1, dRng2, dComp, wipeE, dYes, dJoin, dJs, dFmt, kFmt, pkS, kI2, kAbs, okq, eqv, okqs, eqvs, kCat, dsOf_map, nostos_d, fzs_d, List.getElem?_cons_zero, List.getElem?_cons_succ, List.set_cons_zero, List.set_cons_succ, List.length_cons, List.length_nil, Option.bind_some, Option.map_some, if_true, if_false, Bool.false_eq_true, decide_eq_true_eq, true_and, List.length_map, ite_self]
        refine call_i ?_
        simp only [dSeq, dNext, dIf, dOrT, dAndT, dNotT, dBl, kBl, dTru, kTru, DL.truD, dOp, dCl, s1, s2, dCons, dNil, dVar, dMov, dC, kLenN, peek, lenW, noDict, lenD, sCmp, sOrd, sEq, kEq, sIn, sIsN, nonW, sInt, sAdd, sMul, sRows, rowD, flat, dsOf, seqW, dRet, dRetN, dDrop, dBrk, dCnt, dAsg, gN, gTp, gsCons, gsNil, DL.gSub, setW, useD, nosto, nostos, fz, fzs, dCall0, argsD, argD, dLst, dTup, dIte, dAnd, dOr, dNot, dNeg, dBm, isTy, mApp, sIx, kItem, rowOf, dSl, kSl, dNo, dSo, kInt, kStr, kRepr, kListOf, kIsi, tyN, dFor, dRow, dRng1, dRng2, dComp, wipeE, dYes, dJoin, dJs, dFmt, kFmt, pkS, kI2, kAbs, okq, eqv, okqs, eqvs, kCat, dsOf_map, nostos_d, fzs_d, List.getElem?_cons_zero, List.getElem?_cons_succ, List.set_cons_zero, List.set_cons_succ, List.length_cons, List.length_nil, Option.bind_some, Option.map_some, if_true, if_false, Bool.false_eq_true, decide_eq_true_eq, true_and, List.length_map, ite_self]
        refine useWs_at rfl (useWs_n ⟨szl (by simp), ?_⟩)
        simp only [dSeq, dNext, dIf, dOrT, dAndT, dNotT, dBl, kBl, dTru, kTru, DL.truD, dOp, dCl, s1, s2, dCons, dNil, dVar, dMov, dC, kLenN, peek, lenW, noDict, lenD, sCmp, sOrd, sEq, kEq, sIn, sIsN, nonW, sInt, sAdd, sMul, sRows, rowD, flat, dsOf, seqW, dRet, dRetN, dDrop, dBrk, dCnt, dAsg, gN, gTp, gsCons, gsNil, DL.gSub, setW, useD, nosto, nostos, fz, fzs, dCall0, argsD, argD, dLst, dTup, dIte, dAnd, dOr, dNot, dNeg, dBm, isTy, mApp, sIx, kItem, rowOf, dSl, kSl, dNo, dSo, kInt, kStr, kRepr, kListOf, kIsi, tyN, dFor, dRow, dRng1, dRng2, dComp, wipeE, dYes, dJoin, dJs, dFmt, kFmt, pkS, kI2, kAbs, okq, eqv, okqs, eqvs, kCat, dsOf_map, nostos_d, fzs_d, List.getElem?_cons_zero, List.getElem?_cons_succ, List.set_cons_zero, List.set_cons_succ, List.length_cons, List.length_nil, Option.bind_some, Option.map_some, if_true, if_false, Bool.false_eq_true, decide_eq_true_eq, true_and, List.length_map, ite_self]
        refine ⟨rfl, [w], rfl, by simp, fun t m => by rw [List.mem_singleton.mp m]; have := hw.1; omega, nosto_spotsW _, ?_⟩
        rw [hr]
        refine useWs_at rfl (useWs_i (nosto_spotsW _) (useWs_n ⟨szl (by simp), ?_⟩))
        refine useWs_at rfl (useWs_n ⟨szl (by simp), ?_⟩)
        refine useWs_at rfl (useWs_i ?_ (useWs_n ⟨szl (by simp), ?_⟩))
        · rfl
        simp only [spotsW, dSeq, dNext, dIf, dOrT, dAndT, dNotT, dBl, kBl, dTru, kTru, DL.truD, dOp, dCl, s1, s2, dCons, dNil, dVar, dMov, dC, kLenN, peek, lenW, noDict, lenD, sCmp, sOrd, sEq, kEq, sIn, sIsN, nonW, sInt, sAdd, sMul, sRows, rowD, flat, dsOf, seqW, dRet, dRetN, dDrop, dBrk, dCnt, dAsg, gN, gTp, gsCons, gsNil, DL.gSub, setW, useD, nosto, nostos, fz, fzs, dCall0, argsD, argD, dLst, dTup, dIte, dAnd, dOr, dNot, dNeg, dBm, isTy, mApp, sIx, kItem, rowOf, dSl, kSl, dNo, dSo, kInt, kStr, kRepr, kListOf, kIsi, tyN, dFor, dRow, dRng1, dRng2, dComp, wipeE, dYes, dJoin, dJs, dFmt, kFmt, pkS, kI2, kAbs, okq, eqv, okqs, eqvs, kCat, dsOf_map, nostos_d, fzs_d, List.getElem?_cons_zero, List.getElem?_cons_succ, List.set_cons_zero, List.set_cons_succ, List.length_cons, List.length_nil, Option.bind_some, Option.map_some, if_true, if_false, Bool.false_eq_true, decide_eq_true_eq, true_and, List.length_map, ite_self, List.map_cons, List.map_nil]
        refine ⟨by decide, by decide, .lst [.str w, .lst [optI o]], rfl, ?_, ?_, rfl, ?_⟩
        · simp only [pln, plns, pln_opt, Bool.and_true]
          exact List.all_eq_true.mpr fun c m => decide_eq_true (hw.2 c m)
        · simp only [szD, szs, sz_opt]; decide
        · simp only [dSeq, dNext, dIf, dOrT, dAndT, dNotT, dBl, kBl, dTru, kTru, DL.truD, dOp, dCl, s1, s2, dCons, dNil, dVar, dMov, dC, kLenN, peek, lenW, noDict, lenD, sCmp, sOrd, sEq, kEq, sIn, sIsN, nonW, sInt, sAdd, sMul, sRows, rowD, flat, dsOf, seqW, dRet, dRetN, dDrop, dBrk, dCnt, dAsg, gN, gTp, gsCons, gsNil, DL.gSub, setW, useD, nosto, nostos, fz, fzs, dCall0, argsD, argD, dLst, dTup, dIte, dAnd, dOr, dNot, dNeg, dBm, isTy, mApp, sIx, kItem, rowOf, dSl, kSl, dNo, dSo, kInt, kStr, kRepr, kListOf, kIsi, tyN, dFor, dRow, dRng1, dRng2, dComp, wipeE, dYes, dJoin, dJs, dFmt, kFmt, pkS, kI2, kAbs, okq, eqv, okqs, eqvs, kCat, dsOf_map, nostos_d, fzs_d, List.getElem?_cons_zero, List.getElem?_cons_succ, List.set_cons_zero, List.set_cons_succ, List.length_cons, List.length_nil, Option.bind_some, Option.map_some, if_true, if_false, Bool.false_eq_true, decide_eq_true_eq, true_and, List.length_map, ite_self, Bool.not_true]
          exact ⟨Nat.zero_le _, hk⟩
      simp only [t_law_4_0, dSeq, dNext, dIf, dOrT, dAndT, dNotT, dBl, kBl, dTru, kTru, DL.truD, dOp, dCl, s1, s2, dCons, dNil, dVar, dMov, dC, kLenN, peek, lenW, noDict, lenD, sCmp, sOrd, sEq, kEq, sIn, sIsN, nonW, sInt, sAdd, sMul, sRows, rowD, flat, dsOf, seqW, dRet, dRetN, dDrop, dBrk, dCnt, dAsg, gN, gTp, gsCons, gsNil, DL.gSub, setW, useD, nosto, nostos, fz, fzs, dCall0, argsD, argD, dLst, dTup, dIte, dAnd, dOr, dNot, dNeg, dBm, isTy, mApp, sIx, kItem, rowOf, dSl, kSl, dNo, dSo, kInt, kStr, kRepr, kListOf, kIsi, tyN, dFor, dRow, dRng1, dRng2, dComp, wipeE, dYes, dJoin, dJs, dFmt, kFmt, pkS, kI2, kAbs, okq, eqv, okqs, eqvs, kCat, dsOf_map, nostos_d, fzs_d, List.getElem?_cons_zero, List.getElem?_cons_succ, List.set_cons_zero, List.set_cons_succ, List.length_cons, List.length_nil, Option.bind_some, Option.map_some, if_true, if_false, Bool.false_eq_true, decide_eq_true_eq, true_and, List.length_map, ite_self, lawE]
      refine ⟨by simp, ?_⟩
      refine call_i ?_
      simp only [dSeq, dNext, dIf, dOrT, dAndT, dNotT, dBl, kBl, dTru, kTru, DL.truD, dOp, dCl, s1, s2, dCons, dNil, dVar, dMov, dC, kLenN, peek, lenW, noDict, lenD, sCmp, sOrd, sEq, kEq, sIn, sIsN, nonW, sInt, sAdd, sMul, sRows, rowD, flat, dsOf, seqW, dRet, dRetN, dDrop, dBrk, dCnt, dAsg, gN, gTp, gsCons, gsNil, DL.gSub, setW, useD, nosto, nostos, fz, fzs, dCall0, argsD, argD, dLst, dTup, dIte, dAnd, dOr, dNot, dNeg, dBm, isTy, mApp, sIx, kItem, rowOf, dSl, kSl, dNo, dSo, kInt, kStr, kRepr, kListOf, kIsi, tyN, dFor, dRow, dRng1, dRng2, dComp, wipeE, dYes, dJoin, dJs, dFmt, kFmt, pkS, kI2, kAbs, okq, eqv, okqs, eqvs, kCat, dsOf_map, nostos_d, fzs_d, List.getElem?_cons_zero, List.getElem?_cons_succ, List.set_cons_zero, List.set_cons_succ, List.length_cons, List.length_nil, Option.bind_some, Option.map_some, if_true, if_false, Bool.false_eq_true, decide_eq_true_eq, true_and, List.length_map, ite_self]
      refine ⟨o, rfl, h9, rfl, ?_⟩
      cases o with
      | none =>
        refine useW_i rfl ⟨by simp, ?_⟩
        simp only [t_law_4_1, dSeq, dNext, dIf, dOrT, dAndT, dNotT, dBl, kBl, dTru, kTru, DL.truD, dOp, dCl, s1, s2, dCons, dNil, dVar, dMov, dC, kLenN, peek, lenW, noDict, lenD, sCmp, sOrd, sEq, kEq, sIn, sIsN, nonW, sInt, sAdd, sMul, sRows, rowD, flat, dsOf, seqW, dRet, dRetN, dDrop, dBrk, dCnt, dAsg, gN, gTp, gsCons, gsNil, DL.gSub, setW, useW, useWs, useD, nosto, nostos, fz, fzs, dCall, dCall0, argsD, argD, dLst, dTup, dIte, dAnd, dOr, dNot, dNeg, dBm, isTy, mApp, sIx, kItem, rowOf, dSl, kSl, dNo, dSo, kInt, kStr, kRepr, kListOf, kIsi, tyN, dFor, dRow, dRng1, dRng2, dComp, wipeE, dYes, dJoin, dJs, dFmt, kFmt, pkS, kI2, kAbs, okq, eqv, okqs, eqvs, kCat, dsOf_map, nostos_d, fzs_d, List.getElem?_cons_zero, List.getElem?_cons_succ, List.set_cons_zero, List.set_cons_succ, List.length_cons, List.length_nil, Option.bind_some, Option.map_some, if_true, if_false, Bool.false_eq_true, decide_eq_true_eq, true_and, List.length_map, optI]
        refine ⟨by simp, ?_⟩
        simp only [t_law_4_2, dSeq, dNext, dIf, dOrT, dAndT, dNotT, dBl, kBl, dTru, kTru, DL.truD, dOp, dCl, s1, s2, dCons, dNil, dVar, dMov, dC, kLenN, peek, lenW, noDict, lenD, sCmp, sOrd, sEq, kEq, sIn, sIsN, nonW, sInt, sAdd, sMul, sRows, rowD, flat, dsOf, seqW, dRet, dRetN, dDrop, dBrk, dCnt, dAsg, gN, gTp, gsCons, gsNil, DL.gSub, setW, useW, useWs, useD, nosto, nostos, fz, fzs, dCall, dCall0, argsD, argD, dLst, dTup, dIte, dAnd, dOr, dNot, dNeg, dBm, isTy, mApp, sIx, kItem, rowOf, dSl, kSl, dNo, dSo, kInt, kStr, kRepr, kListOf, kIsi, tyN, dFor, dRow, dRng1, dRng2, dComp, wipeE, dYes, dJoin, dJs, dFmt, kFmt, pkS, kI2, kAbs, okq, eqv, okqs, eqvs, kCat, dsOf_map, nostos_d, fzs_d, List.getElem?_cons_zero, List.getElem?_cons_succ, List.set_cons_zero, List.set_cons_succ, List.length_cons, List.length_nil, Option.bind_some, Option.map_some, if_true, if_false, Bool.false_eq_true, decide_eq_true_eq, true_and, List.length_map, Bool.true_bne]
        exact fin [45] ⟨by simp, fun c m => by rw [List.mem_singleton.mp m]; decide⟩ rfl (next _)
      | some n =>
        refine useW_i rfl ⟨by simp, ?_⟩
        simp only [t_law_4_1, dSeq, dNext, dIf, dOrT, dAndT, dNotT, dBl, kBl, dTru, kTru, DL.truD, dOp, dCl, s1, s2, dCons, dNil, dVar, dMov, dC, kLenN, peek, lenW, noDict, lenD, sCmp, sOrd, sEq, kEq, sIn, sIsN, nonW, sInt, sAdd, sMul, sRows, rowD, flat, dsOf, seqW, dRet, dRetN, dDrop, dBrk, dCnt, dAsg, gN, gTp, gsCons, gsNil, DL.gSub, setW, useW, useWs, useD, nosto, nostos, fz, fzs, dCall, dCall0, argsD, argD, dLst, dTup, dIte, dAnd, dOr, dNot, dNeg, dBm, isTy, mApp, sIx, kItem, rowOf, dSl, kSl, dNo, dSo, kInt, kStr, kRepr, kListOf, kIsi, tyN, dFor, dRow, dRng1, dRng2, dComp, wipeE, dYes, dJoin, dJs, dFmt, kFmt, pkS, kI2, kAbs, okq, eqv, okqs, eqvs, kCat, dsOf_map, nostos_d, fzs_d, List.getElem?_cons_zero, List.getElem?_cons_succ, List.set_cons_zero, List.set_cons_succ, List.length_cons, List.length_nil, Option.bind_some, Option.map_some, if_true, if_false, Bool.false_eq_true, decide_eq_true_eq, true_and, List.length_map, optI]
        refine ⟨by simp, ?_⟩
        simp only [t_law_4_2, dSeq, dNext, dIf, dOrT, dAndT, dNotT, dBl, kBl, dTru, kTru, DL.truD, dOp, dCl, s1, s2, dCons, dNil, dVar, dMov, dC, kLenN, peek, lenW, noDict, lenD, sCmp, sOrd, sEq, kEq, sIn, sIsN, nonW, sInt, sAdd, sMul, sRows, rowD, flat, dsOf, seqW, dRet, dRetN, dDrop, dBrk, dCnt, dAsg, gN, gTp, gsCons, gsNil, DL.gSub, setW, useW, useWs, useD, nosto, nostos, fz, fzs, dCall, dCall0, argsD, argD, dLst, dTup, dIte, dAnd, dOr, dNot, dNeg, dBm, isTy, mApp, sIx, kItem, rowOf, dSl, kSl, dNo, dSo, kInt, kStr, kRepr, kListOf, kIsi, tyN, dFor, dRow, dRng1, dRng2, dComp, wipeE, dYes, dJoin, dJs, dFmt, kFmt, pkS, kI2, kAbs, okq, eqv, okqs, eqvs, kCat, dsOf_map, nostos_d, fzs_d, List.getElem?_cons_zero, List.getElem?_cons_succ, List.set_cons_zero, List.set_cons_succ, List.length_cons, List.length_nil, Option.bind_some, Option.map_some, if_true, if_false, Bool.false_eq_true, decide_eq_true_eq, true_and, List.length_map, Bool.true_bne]
        refine ite_i (fun _ => ?_) (fun h => absurd rfl h)
        simp only [t_law_6_0, dSeq, dNext, dIf, dOrT, dAndT, dNotT, dBl, kBl, dTru, kTru, DL.truD, dOp, dCl, s1, s2, dCons, dNil, dVar, dMov, dC, kLenN, peek, lenW, noDict, lenD, sCmp, sOrd, sEq, kEq, sIn, sIsN, nonW, sInt, sAdd, sMul, sRows, rowD, flat, dsOf, seqW, dRet, dRetN, dDrop, dBrk, dCnt, dAsg, gN, gTp, gsCons, gsNil, DL.gSub, setW, useW, useWs, useD, nosto, nostos, fz, fzs, dCall, dCall0, argsD, argD, dLst, dTup, dIte, dAnd, dOr, dNot, dNeg, dBm, isTy, mApp, sIx, kItem, rowOf, dSl, kSl, dNo, dSo, kInt, kStr, kRepr, kListOf, kIsi, tyN, dFor, dRow, dRng1, dRng2, dComp, wipeE, dYes, dJoin, dJs, dFmt, kFmt, pkS, kI2, kAbs, okq, eqv, okqs, eqvs, kCat, dsOf_map, nostos_d, fzs_d, List.getElem?_cons_zero, List.getElem?_cons_succ, List.set_cons_zero, List.set_cons_succ, List.length_cons, List.length_nil, Option.bind_some, Option.map_some, if_true, if_false, Bool.false_eq_true, decide_eq_true_eq, true_and, List.length_map, showI_nat]
        refine ⟨sz9 (h9 n rfl), by simp, ?_⟩
        exact fin (TL.numL n) (numL_ok (h9 n rfl)) (spot_back (some n) h10) (next _)
  · show [W.d D.non] ++ _ = _
    rw [List.map_cons, List.map_map, List.map_map]; rfl
  · rcases List.mem_cons.mp m with rfl | m
    · cases e
    · obtain ⟨i, mi, rfl⟩ := List.mem_map.mp m
      cases e
      have := List.mem_range'.mp mi
      omega
  · obtain ⟨os, o3, o7, o8, o9, er, ho, rfl⟩ := hI
    exact h _ _ _ _
end Lk27

namespace Lk27
open PySem DL
theorem numL_head {n : Nat} : 1 ≤ n → (TL.numL n)[0]? ≠ some 48 := by
  induction n using Nat.strongRecOn with
  | _ n ih =>
    intro h1
    by_cases h : n < 10
    · rw [TL.numL_lt h]; simp; omega
    · rw [TL.numL_step (by omega)]
      have hne := TL.numL_ne (n / 10)
      have := ih (n / 10) (by omega) (by omega)
      cases e : TL.numL (n / 10) with
      | nil => exact absurd e hne
      | cons c t => rw [e] at this; simpa using this
theorem numL_len2 {n : Nat} (h : 1 < (TL.numL n).length) : 10 ≤ n := by
  by_cases h1 : n < 10
  · rw [TL.numL_lt h1] at h; simp at h
  · omega
theorem rnum_num {n : Nat} (h : n < 10 ^ 9) : rnum (TL.numL n) = some n := by
  have h9 := numL9 h
  have h0 : 0 < (TL.numL n).length := List.length_pos_iff.mpr (TL.numL_ne n)
  have hd : (TL.numL n).all isDig = true := List.all_eq_true.mpr fun c m => by
    obtain ⟨h1, h2⟩ := TL.numL_digits n c m
    unfold isDig; rw [decide_eq_true h1, decide_eq_true h2]; rfl
  unfold rnum
  rw [if_neg (by omega), if_neg (by rw [hd]; decide), if_neg, TL.numL_val]
  rintro ⟨h1, h2⟩
  exact numL_head (by have := numL_len2 h1; omega) h2
theorem law4 {sc : W} {A : List (List Nat)} {nl : List Nat} {o3 o5 o6 o7 o8 o9 : Option W} (hn : ∀ n ∈ nl, n < 10 ^ 9) (h : ∀ o3 o4 o5 o6, t_law_0_5 trueE kf0 (lawE sc A o3 o4 o5 o6 o7 o8 o9)) : t_law_0_4 trueE kf0 (lawE sc A o3 (some (.ol (nl.map fun n : Nat => W.d (.int n)))) o5 o6 o7 o8 o9) := by
  simp only [t_law_0_4, dSeq, dNext, dIf, dOrT, dAndT, dNotT, dBl, kBl, dTru, kTru, DL.truD, dOp, dCl, s1, s2, dCons, dNil, dVar, dMov, dC, kLenN, peek, lenW, noDict, lenD, sCmp, sOrd, sEq, kEq, sIn, sIsN, nonW, sInt, sAdd, sMul, sRows, rowD, flat, dsOf, seqW, dRet, dRetN, dDrop, dBrk, dCnt, dAsg, gN, gTp, gsCons, gsNil, DL.gSub, setW, useW, useWs, useD, nosto, nostos, fz, fzs, dCall, dCall0, argsD, argD, dLst, dTup, dIte, dAnd, dOr, dNot, dNeg, dBm, isTy, mApp, sIx, kItem, rowOf, dSl, kSl, dNo, dSo, kInt, kStr, kRepr, kListOf, kIsi, tyN, dFor, dRow, dRng1, dRng2, dComp, wipeE, dYes, dJoin, dJs, dFmt, kFmt, pkS, kI2, kAbs, okq, eqv, okqs, eqvs, kCat, dsOf_map, nostos_d, fzs_d, List.getElem?_cons_zero, List.getElem?_cons_succ, List.set_cons_zero, List.set_cons_succ, List.length_cons, List.length_nil, Option.bind_some, Option.map_some, if_true, if_false, Bool.false_eq_true, decide_eq_true_eq, true_and, List.length_map, lawE, fzs_map, map_d]
  refine ⟨nostos_map, ?_⟩
  refine forL_ind (fun r env => ∃ (l : List Nat) (o3 o4 o5 o6 : Option W), r = l.map (fun n : Nat => W.d (.int n)) ∧ (∀ n ∈ l, n < 10 ^ 9) ∧ env = lawE sc A o3 o4 o5 o6 o7 o8 o9) (fun w r env K hI hK => ?_) ⟨nl, o3, _, o5, o6, rfl, hn, rfl⟩ (fun e hI => ?_)
  · obtain ⟨l, o3, o4, o5, o6, er, hl, rfl⟩ := hI
    cases l with
    | nil => cases er
    | cons n l =>
      cases er
      have n9 := hl n List.mem_cons_self
      have next : ∀ o3 o5 o6, K (lawE sc A o3 o4 o5 o6 o7 o8 o9) := fun o3 o5 o6 => hK _ ⟨l, o3, o4, o5, o6, rfl, fun m hm => hl m (List.mem_cons_of_mem _ hm), rfl⟩
      simp only [t_law_7_0, dSeq, dNext, dIf, dOrT, dAndT, dNotT, dBl, kBl, dTru, kTru, DL.truD, dOp, dCl, s1, s2, dCons, dNil, dVar, dMov, dC, kLenN, peek, lenW, noDict, lenD, sCmp, sOrd, sEq, kEq, sIn, sIsN, nonW, sInt, sAdd, sMul, sRows, rowD, flat, dsOf, seqW, dRet, dRetN, dDrop, dBrk, dCnt, dAsg, gN, gTp, gsCons, gsNil, DL.gSub, setW, useW, useWs, useD, nosto, nostos, fz, fzs, dCall, dCall0, argsD, argD, dLst, dTup, dIte, dAnd, dOr, dNot, dNeg, dBm, isTy, mApp, sIx, kItem, rowOf, dSl, kSl, dNo, dSo, kInt, kStr, kRepr, kListOf, kIsi, tyN, dFor, dRow, dRng1, dRng2, dComp, wipeE, dYes, dJoin, dJs, dFmt, kFmt, pkS, kI2, kAbs, okq, eqv, okqs, eqvs, kCat, dsOf_map, nostos_d, fzs_d, List.getElem?_cons_zero, List.getElem?_cons_succ, List.set_cons_zero, List.set_cons_succ, List.length_cons, List.length_nil, Option.bind_some, Option.map_some, if_true, if_false, Bool.false_eq_true, decide_eq_true_eq, true_and, List.length_map, useWs, lawE]
      refine ⟨by decide, szl (by decide), szl (by decide), rfl, rfl, szl (by decide), rfl, ?_⟩
      refine forL_ind (fun r env => ∃ (ps : List (List Nat)) (o3 o6 : Option W), r = ps.map (fun p => W.d (.tup [.str p, .int n])) ∧ (∀ p ∈ ps, p = tRow ∨ p = tCol) ∧ env = lawE sc A o3 o4 (some (.d (.int n))) o6 o7 o8 o9) (fun w r env K2 hI hK2 => ?_) ⟨[tRow, tCol], o3, o6, rfl, fun p m => ?_, rfl⟩ (fun e hI => ?_)
      · obtain ⟨ps, o3, o6, er, hp, rfl⟩ := hI
        cases ps with
        | nil => cases er
        | cons p ps =>
          cases er
          have hside := hp p List.mem_cons_self
          have next2 : ∀ o3 o6, K2 (lawE sc A o3 o4 (some (.d (.int n))) o6 o7 o8 o9) := fun o3 o6 => hK2 _ ⟨ps, o3, o6, rfl, fun q m => hp q (List.mem_cons_of_mem _ m), rfl⟩
          have l9 := numL9 n9
          have hc : ∃ c, (if p = tRow then 114 else 99) = c ∧ c < 128 ∧ L2.atI p 0 = some c ∧ rcut (c :: TL.numL n) = some (p, n) ∧ p.length ≤ 9 ∧ (∀ x ∈ p, x < 128) := by
            rcases hside with rfl | rfl
            · refine ⟨114, rfl, by decide, rfl, ?_, by decide, by decide⟩
              show (match rnum (TL.numL n) with | some n => if 114 = 114 then some (tRow, n) else if 114 = 99 then some (tCol, n) else none | none => none) = _
              rw [rnum_num n9]; rfl
            · refine ⟨99, rfl, by decide, rfl, ?_, by decide, by decide⟩
              show (match rnum (TL.numL n) with | some n => if 99 = 114 then some (tRow, n) else if 99 = 99 then some (tCol, n) else none | none => none) = _
              rw [rnum_num n9]; rfl
          obtain ⟨c, ec, c128, ea, hr, pl9, p128⟩ := hc
          have okn := numL_ok n9
          simp only [t_law_8_0, dSeq, dNext, dIf, dOrT, dAndT, dNotT, dBl, kBl, dTru, kTru, DL.truD, dOp, dCl, s1, s2, dCons, dNil, dVar, dMov, dC, kLenN, peek, lenW, noDict, lenD, sCmp, sOrd, sEq, kEq, sIn, sIsN, nonW, sInt, sAdd, sMul, sRows, rowD, flat, dsOf, seqW, dRet, dRetN, dDrop, dBrk, dCnt, dAsg, gN, gTp, gsCons, gsNil, DL.gSub, setW, useD, nosto, nostos, fz, fzs, dCall0, argsD, argD, dLst, dTup, dIte, dAnd, dOr, dNot, dNeg, dBm, isTy, mApp, sIx, kItem, rowOf, dSl, kSl, dNo, dSo, kInt, kStr, kRepr, kListOf, kIsi, tyN, dFor, dRow, dRng1, dRng2, dComp, wipeE, dYes, dJoin, dJs, dFmt, kFmt, pkS, kI2, kAbs, okq, eqv, okqs, eqvs, kCat, dsOf_map, nostos_d, fzs_d, List.getElem?_cons_zero, List.getElem?_cons_succ, List.set_cons_zero, List.set_cons_succ, List.length_cons, List.length_nil, Option.bind_some, Option.map_some, if_true, if_false, Bool.false_eq_true, decide_eq_true_eq, true_and, List.length_map, ite_self, lawE]
          refine ⟨by simp, ?_⟩
          refine call_i ?_
          simp only [dSeq, dNext, dIf, dOrT, dAndT, dNotT, dBl, kBl, dTru, kTru, DL.truD, dOp, dCl, s1, s2, dCons, dNil, dVar, dMov, dC, kLenN, peek, lenW, noDict, lenD, sCmp, sOrd, sEq, kEq, sIn, sIsN, nonW, sInt, sAdd, sMul, sRows, rowD, flat, dsOf, seqW, dRet, dRetN, dDrop, dBrk, dCnt, dAsg, gN, gTp, gsCons, gsNil, DL.gSub, setW, useD, nosto, nostos, fz, fzs, dCall0, argsD, argD, dLst, dTup, dIte, dAnd, dOr, dNot, dNeg, dBm, isTy, mApp, sIx, kItem, rowOf, dSl, kSl, dNo, dSo, kInt, kStr, kRepr, kListOf, kIsi, tyN, dFor, dRow, dRng1, dRng2, dComp, wipeE, dYes, dJoin, dJs, dFmt, kFmt, pkS, kI2, kAbs, okq, eqv, okqs, eqvs, kCat, dsOf_map, nostos_d, fzs_d, List.getElem?_cons_zero, List.getElem?_cons_succ, List.set_cons_zero, List.set_cons_succ, List.length_cons, List.length_nil, Option.bind_some, Option.map_some, if_true, if_false, Bool.false_eq_true, decide_eq_true_eq, true_and, List.length_map, ite_self]
          refine ⟨p, n, rfl, n9, hside, rfl, ?_⟩
          rw [ec]
          refine useW_i rfl ⟨by simp, ?_⟩
          simp only [t_law_8_1, dSeq, dNext, dIf, dOrT, dAndT, dNotT, dBl, kBl, dTru, kTru, DL.truD, dOp, dCl, s1, s2, dCons, dNil, dVar, dMov, dC, kLenN, peek, lenW, noDict, lenD, sCmp, sOrd, sEq, kEq, sIn, sIsN, nonW, sInt, sAdd, sMul, sRows, rowD, flat, dsOf, seqW, dRet, dRetN, dDrop, dBrk, dCnt, dAsg, gN, gTp, gsCons, gsNil, DL.gSub, setW, useD, nosto, nostos, fz, fzs, dCall0, argsD, argD, dLst, dTup, dIte, dAnd, dOr, dNot, dNeg, dBm, isTy, mApp, sIx, kItem, rowOf, dSl, kSl, dNo, dSo, kInt, kStr, kRepr, kListOf, kIsi, tyN, dFor, dRow, dRng1, dRng2, dComp, wipeE, dYes, dJoin, dJs, dFmt, kFmt, pkS, kI2, kAbs, okq, eqv, okqs, eqvs, kCat, dsOf_map, nostos_d, fzs_d, List.getElem?_cons_zero, List.getElem?_cons_succ, List.set_cons_zero, List.set_cons_succ, List.length_cons, List.length_nil, Option.bind_some, Option.map_some, if_true, if_false, Bool.false_eq_true, decide_eq_true_eq, true_and, List.length_map, ite_self]
          refine call_i ?_
          simp only [dSeq, dNext, dIf, dOrT, dAndT, dNotT, dBl, kBl, dTru, kTru, DL.truD, dOp, dCl, s1, s2, dCons, dNil, dVar, dMov, dC, kLenN, peek, lenW, noDict, lenD, sCmp, sOrd, sEq, kEq, sIn, sIsN, nonW, sInt, sAdd, sMul, sRows, rowD, flat, dsOf, seqW, dRet, dRetN, dDrop, dBrk, dCnt, dAsg, gN, gTp, gsCons, gsNil, DL.gSub, setW, useD, nosto, nostos, fz, fzs, dCall0, argsD, argD, dLst, dTup, dIte, dAnd, dOr, dNot, dNeg, dBm, isTy, mApp, sIx, kItem, rowOf, dSl, kSl, dNo, dSo, kInt, kStr, kRepr, kListOf, kIsi, tyN, dFor, dRow, dRng1, dRng2, dComp, wipeE, dYes, dJoin, dJs, dFmt, kFmt, pkS, kI2, kAbs, okq, eqv, okqs, eqvs, kCat, dsOf_map, nostos_d, fzs_d, List.getElem?_cons_zero, List.getElem?_cons_succ, List.set_cons_zero, List.set_cons_succ, List.length_cons, List.length_nil, Option.bind_some, Option.map_some, if_true, if_false, Bool.false_eq_true, decide_eq_true_eq, true_and, List.length_map, ite_self]
          refine call_i ?_
          simp only [dSeq, dNext, dIf, dOrT, dAndT, dNotT, dBl, kBl, dTru, kTru, DL.truD, dOp, dCl, s1, s2, dCons, dNil, dVar, dMov, dC, kLenN, peek, lenW, noDict, lenD, sCmp, sOrd, sEq, kEq, sIn, sIsN, nonW, sInt, sAdd, sMul, sRows, rowD, flat, dsOf, seqW, dRet, dRetN, dDrop, dBrk, dCnt, dAsg, gN, gTp, gsCons, gsNil, DL.gSub, setW, useD, nosto, nostos, fz, fzs, dCall0, argsD, argD, dLst, dTup, dIte, dAnd, dOr, dNot, dNeg, dBm, isTy, mApp, sIx, kItem, rowOf, dSl, kSl, dNo, dSo, kInt, kStr, kRepr, kListOf, kIsi, tyN, dFor, dRow, dRng1, dRng2, dComp, wipeE, dYes, dJoin, dJs, dFmt, kFmt, pkS, kI2, kAbs, okq, eqv, okqs, eqvs, kCat, dsOf_map, nostos_d, fzs_d, List.getElem?_cons_zero, List.getElem?_cons_succ, List.set_cons_zero, List.set_cons_succ, List.length_cons, List.length_nil, Option.bind_some, Option.map_some, if_true, if_false, Bool.false_eq_true, decide_eq_true_eq, true_and, List.length_map, ite_self]
          refine ⟨_, rfl, by simp; omega, nosto_cutW _, ?_⟩
          rw [hr]
          have ex : L2.atI [W.d (.str p), W.d (.int (n : Int))] 0 = some (W.d (.str p)) := rfl
          refine useWs_at rfl (useWs_i rfl (useWs_n ⟨szl (by simp), ?_⟩))
          simp only [dSeq, dNext, dIf, dOrT, dAndT, dNotT, dBl, kBl, dTru, kTru, DL.truD, dOp, dCl, s1, s2, dCons, dNil, dVar, dMov, dC, kLenN, peek, lenW, noDict, lenD, sCmp, sOrd, sEq, kEq, sIn, sIsN, nonW, sInt, sAdd, sMul, sRows, rowD, flat, dsOf, seqW, dRet, dRetN, dDrop, dBrk, dCnt, dAsg, gN, gTp, gsCons, gsNil, DL.gSub, setW, useD, nosto, nostos, fz, fzs, dCall0, argsD, argD, dLst, dTup, dIte, dAnd, dOr, dNot, dNeg, dBm, isTy, mApp, sIx, kItem, rowOf, dSl, kSl, dNo, dSo, kInt, kStr, kRepr, kListOf, kIsi, tyN, dFor, dRow, dRng1, dRng2, dComp, wipeE, dYes, dJoin, dJs, dFmt, kFmt, pkS, kI2, kAbs, okq, eqv, okqs, eqvs, kCat, dsOf_map, nostos_d, fzs_d, List.getElem?_cons_zero, List.getElem?_cons_succ, List.set_cons_zero, List.set_cons_succ, List.length_cons, List.length_nil, Option.bind_some, Option.map_some, if_true, if_false, Bool.false_eq_true, decide_eq_true_eq, true_and, List.length_map, ite_self, List.map_cons, List.map_nil, ex, ea, showI_nat]
          refine ⟨szl (by omega), sz9 n9, szl (by omega), ?_⟩
          refine useWs_i rfl (useWs_at rfl (useWs_n ⟨szl (by simp), rfl, rfl, .lst [.str (c :: TL.numL n), cutD (p, n)], rfl, ?_, ?_, rfl, ?_⟩))
          · have q1 : (c :: TL.numL n).all (· < 128) = true := List.all_eq_true.mpr fun x m => decide_eq_true ((List.mem_cons.mp m).elim (fun e => e ▸ c128) (okn.2 x))
            have q2 : p.all (· < 128) = true := List.all_eq_true.mpr fun x m => decide_eq_true (p128 x m)
            show ((c :: TL.numL n).all (· < 128) && ((p.all (· < 128) && (true && true)) && true)) = true
            rw [q1, q2]; rfl
          · show 1 + (1 + (1 + (1 + (1 + 0)) + 0)) ≤ 100000
            decide
          · simp only [dSeq, dNext, dIf, dOrT, dAndT, dNotT, dBl, kBl, dTru, kTru, DL.truD, dOp, dCl, s1, s2, dCons, dNil, dVar, dMov, dC, kLenN, peek, lenW, noDict, lenD, sCmp, sOrd, sEq, kEq, sIn, sIsN, nonW, sInt, sAdd, sMul, sRows, rowD, flat, dsOf, seqW, dRet, dRetN, dDrop, dBrk, dCnt, dAsg, gN, gTp, gsCons, gsNil, DL.gSub, setW, useD, nosto, nostos, fz, fzs, dCall0, argsD, argD, dLst, dTup, dIte, dAnd, dOr, dNot, dNeg, dBm, isTy, mApp, sIx, kItem, rowOf, dSl, kSl, dNo, dSo, kInt, kStr, kRepr, kListOf, kIsi, tyN, dFor, dRow, dRng1, dRng2, dComp, wipeE, dYes, dJoin, dJs, dFmt, kFmt, pkS, kI2, kAbs, okq, eqv, okqs, eqvs, kCat, dsOf_map, nostos_d, fzs_d, List.getElem?_cons_zero, List.getElem?_cons_succ, List.set_cons_zero, List.set_cons_succ, List.length_cons, List.length_nil, Option.bind_some, Option.map_some, if_true, if_false, Bool.false_eq_true, decide_eq_true_eq, true_and, List.length_map, ite_self, Bool.not_true]
            exact ⟨Nat.zero_le _, next2 _ _⟩
      · simp only [List.mem_cons, List.not_mem_nil, or_false] at m
        exact m
      · obtain ⟨ps, o3, o6, er, hp, rfl⟩ := hI
        exact next _ _ _
  · obtain ⟨l, o3, o4, o5, o6, er, hl, rfl⟩ := hI
    exact h _ _ _ _
end Lk27

namespace Lk27
open PySem DL
theorem law3 {sc : W} {A : List (List Nat)} {o3 o4 o5 o6 o7 o8 o9 : Option W} (h : ∀ nl : List Nat, (∀ n ∈ nl, n < 10 ^ 9) → t_law_0_4 trueE kf0 (lawE sc A o3 (some (.ol (nl.map fun n : Nat => W.d (.int n)))) o5 o6 o7 o8 o9)) : t_law_0_3 trueE kf0 (lawE sc A o3 o4 o5 o6 o7 o8 o9) := by
  simp only [t_law_0_3, dSeq, dNext, dIf, dOrT, dAndT, dNotT, dBl, kBl, dTru, kTru, DL.truD, dOp, dCl, s1, s2, dCons, dNil, dVar, dMov, dC, kLenN, peek, lenW, noDict, lenD, sCmp, sOrd, sEq, kEq, sIn, sIsN, nonW, sInt, sAdd, sMul, sRows, rowD, flat, dsOf, seqW, dRet, dRetN, dDrop, dBrk, dCnt, dAsg, gN, gTp, gsCons, gsNil, DL.gSub, setW, useD, nosto, nostos, fz, fzs, dCall0, argsD, argD, dLst, dTup, dIte, dAnd, dOr, dNot, dNeg, dBm, isTy, mApp, sIx, kItem, rowOf, dSl, kSl, dNo, dSo, kInt, kStr, kRepr, kListOf, kIsi, tyN, dFor, dRow, dRng1, dRng2, dComp, wipeE, dYes, dJoin, dJs, dFmt, kFmt, pkS, kI2, kAbs, okq, eqv, okqs, eqvs, kCat, dsOf_map, nostos_d, fzs_d, List.getElem?_cons_zero, List.getElem?_cons_succ, List.set_cons_zero, List.set_cons_succ, List.length_cons, List.length_nil, Option.bind_some, Option.map_some, if_true, if_false, Bool.false_eq_true, decide_eq_true_eq, true_and, List.length_map, ite_self, lawE]
  refine call_i ?_
  simp only [dSeq, dNext, dIf, dOrT, dAndT, dNotT, dBl, kBl, dTru, kTru, DL.truD, dOp, dCl, s1, s2, dCons, dNil, dVar, dMov, dC, kLenN, peek, lenW, noDict, lenD, sCmp, sOrd, sEq, kEq, sIn, sIsN, nonW, sInt, sAdd, sMul, sRows, rowD, flat, dsOf, seqW, dRet, dRetN, dDrop, dBrk, dCnt, dAsg, gN, gTp, gsCons, gsNil, DL.gSub, setW, useD, nosto, nostos, fz, fzs, dCall0, argsD, argD, dLst, dTup, dIte, dAnd, dOr, dNot, dNeg, dBm, isTy, mApp, sIx, kItem, rowOf, dSl, kSl, dNo, dSo, kInt, kStr, kRepr, kListOf, kIsi, tyN, dFor, dRow, dRng1, dRng2, dComp, wipeE, dYes, dJoin, dJs, dFmt, kFmt, pkS, kI2, kAbs, okq, eqv, okqs, eqvs, kCat, dsOf_map, nostos_d, fzs_d, List.getElem?_cons_zero, List.getElem?_cons_succ, List.set_cons_zero, List.set_cons_succ, List.length_cons, List.length_nil, Option.bind_some, Option.map_some, if_true, if_false, Bool.false_eq_true, decide_eq_true_eq, true_and, List.length_map, ite_self]
  refine ⟨17, rfl, by decide, by decide, fun i i0 i1 => ⟨rfl, ?_⟩⟩
  refine call_i ?_
  simp only [dSeq, dNext, dIf, dOrT, dAndT, dNotT, dBl, kBl, dTru, kTru, DL.truD, dOp, dCl, s1, s2, dCons, dNil, dVar, dMov, dC, kLenN, peek, lenW, noDict, lenD, sCmp, sOrd, sEq, kEq, sIn, sIsN, nonW, sInt, sAdd, sMul, sRows, rowD, flat, dsOf, seqW, dRet, dRetN, dDrop, dBrk, dCnt, dAsg, gN, gTp, gsCons, gsNil, DL.gSub, setW, useD, nosto, nostos, fz, fzs, dCall0, argsD, argD, dLst, dTup, dIte, dAnd, dOr, dNot, dNeg, dBm, isTy, mApp, sIx, kItem, rowOf, dSl, kSl, dNo, dSo, kInt, kStr, kRepr, kListOf, kIsi, tyN, dFor, dRow, dRng1, dRng2, dComp, wipeE, dYes, dJoin, dJs, dFmt, kFmt, pkS, kI2, kAbs, okq, eqv, okqs, eqvs, kCat, dsOf_map, nostos_d, fzs_d, List.getElem?_cons_zero, List.getElem?_cons_succ, List.set_cons_zero, List.set_cons_succ, List.length_cons, List.length_nil, Option.bind_some, Option.map_some, if_true, if_false, Bool.false_eq_true, decide_eq_true_eq, true_and, List.length_map, ite_self]
  refine ⟨1000000, rfl, by decide, by decide, fun j j0 j1 => ⟨rfl, ?_⟩⟩
  simp only [dSeq, dNext, dIf, dOrT, dAndT, dNotT, dBl, kBl, dTru, kTru, DL.truD, dOp, dCl, s1, s2, dCons, dNil, dVar, dMov, dC, kLenN, peek, lenW, noDict, lenD, sCmp, sOrd, sEq, kEq, sIn, sIsN, nonW, sInt, sAdd, sMul, sRows, rowD, flat, dsOf, seqW, dRet, dRetN, dDrop, dBrk, dCnt, dAsg, gN, gTp, gsCons, gsNil, DL.gSub, setW, useD, nosto, nostos, fz, fzs, dCall0, argsD, argD, dLst, dTup, dIte, dAnd, dOr, dNot, dNeg, dBm, isTy, mApp, sIx, kItem, rowOf, dSl, kSl, dNo, dSo, kInt, kStr, kRepr, kListOf, kIsi, tyN, dFor, dRow, dRng1, dRng2, dComp, wipeE, dYes, dJoin, dJs, dFmt, kFmt, pkS, kI2, kAbs, okq, eqv, okqs, eqvs, kCat, dsOf_map, nostos_d, fzs_d, List.getElem?_cons_zero, List.getElem?_cons_succ, List.set_cons_zero, List.set_cons_succ, List.length_cons, List.length_nil, Option.bind_some, Option.map_some, if_true, if_false, Bool.false_eq_true, decide_eq_true_eq, true_and, List.length_map, ite_self]
  refine ⟨mulR (by decide) (by decide), ?_⟩
  refine call_i ?_
  simp only [dSeq, dNext, dIf, dOrT, dAndT, dNotT, dBl, kBl, dTru, kTru, DL.truD, dOp, dCl, s1, s2, dCons, dNil, dVar, dMov, dC, kLenN, peek, lenW, noDict, lenD, sCmp, sOrd, sEq, kEq, sIn, sIsN, nonW, sInt, sAdd, sMul, sRows, rowD, flat, dsOf, seqW, dRet, dRetN, dDrop, dBrk, dCnt, dAsg, gN, gTp, gsCons, gsNil, DL.gSub, setW, useD, nosto, nostos, fz, fzs, dCall0, argsD, argD, dLst, dTup, dIte, dAnd, dOr, dNot, dNeg, dBm, isTy, mApp, sIx, kItem, rowOf, dSl, kSl, dNo, dSo, kInt, kStr, kRepr, kListOf, kIsi, tyN, dFor, dRow, dRng1, dRng2, dComp, wipeE, dYes, dJoin, dJs, dFmt, kFmt, pkS, kI2, kAbs, okq, eqv, okqs, eqvs, kCat, dsOf_map, nostos_d, fzs_d, List.getElem?_cons_zero, List.getElem?_cons_succ, List.set_cons_zero, List.set_cons_succ, List.length_cons, List.length_nil, Option.bind_some, Option.map_some, if_true, if_false, Bool.false_eq_true, decide_eq_true_eq, true_and, List.length_map, ite_self]
  refine ⟨1000, rfl, by decide, by decide, fun q q0 q1 => ⟨rfl, ?_⟩⟩
  simp only [dSeq, dNext, dIf, dOrT, dAndT, dNotT, dBl, kBl, dTru, kTru, DL.truD, dOp, dCl, s1, s2, dCons, dNil, dVar, dMov, dC, kLenN, peek, lenW, noDict, lenD, sCmp, sOrd, sEq, kEq, sIn, sIsN, nonW, sInt, sAdd, sMul, sRows, rowD, flat, dsOf, seqW, dRet, dRetN, dDrop, dBrk, dCnt, dAsg, gN, gTp, gsCons, gsNil, DL.gSub, setW, useD, nosto, nostos, fz, fzs, dCall0, argsD, argD, dLst, dTup, dIte, dAnd, dOr, dNot, dNeg, dBm, isTy, mApp, sIx, kItem, rowOf, dSl, kSl, dNo, dSo, kInt, kStr, kRepr, kListOf, kIsi, tyN, dFor, dRow, dRng1, dRng2, dComp, wipeE, dYes, dJoin, dJs, dFmt, kFmt, pkS, kI2, kAbs, okq, eqv, okqs, eqvs, kCat, dsOf_map, nostos_d, fzs_d, List.getElem?_cons_zero, List.getElem?_cons_succ, List.set_cons_zero, List.set_cons_succ, List.length_cons, List.length_nil, Option.bind_some, Option.map_some, if_true, if_false, Bool.false_eq_true, decide_eq_true_eq, true_and, List.length_map, ite_self]
  refine useWs_i rfl (useWs_i rfl (useWs_i rfl (useWs_i rfl (useWs_n ⟨szl (by simp), useW_i rfl ⟨by simp, ?_⟩⟩))))
  obtain ⟨i, rfl⟩ : ∃ n : Nat, i = n := ⟨i.toNat, by omega⟩
  obtain ⟨j, rfl⟩ : ∃ n : Nat, j = n := ⟨j.toNat, by omega⟩
  obtain ⟨q, rfl⟩ : ∃ n : Nat, q = n := ⟨q.toNat, by omega⟩
  have := h [0, 999999999, i, j * 1000 + q] (fun n m => by
    simp only [List.mem_cons, List.not_mem_nil, or_false] at m
    rcases m with rfl | rfl | rfl | rfl
    · decide
    · decide
    · have : (10 : Nat) ^ 9 = 1000000000 := by decide
      omega
    · have : (10 : Nat) ^ 9 = 1000000000 := by decide
      omega)
  simpa [lawE] using this
theorem law2 {sc : W} {A : List (List Nat)} {o3 o4 o5 o6 o7 o8 o9 : Option W} (hs : ∀ s ∈ A, okS s 5000) (h : ∀ o3, t_law_0_3 trueE kf0 (lawE sc A o3 o4 o5 o6 o7 o8 o9)) : t_law_0_2 trueE kf0 [some sc, some .sto, some (.ol (A.map fun s => W.d (.str s))), o3, o4, o5, o6, o7, o8, o9] := by
  simp only [t_law_0_2, dSeq, dNext, dIf, dOrT, dAndT, dNotT, dBl, kBl, dTru, kTru, DL.truD, dOp, dCl, s1, s2, dCons, dNil, dVar, dMov, dC, kLenN, peek, lenW, noDict, lenD, sCmp, sOrd, sEq, kEq, sIn, sIsN, nonW, sInt, sAdd, sMul, sRows, rowD, flat, dsOf, seqW, dRet, dRetN, dDrop, dBrk, dCnt, dAsg, gN, gTp, gsCons, gsNil, DL.gSub, setW, useD, nosto, nostos, fz, fzs, dCall0, argsD, argD, dLst, dTup, dIte, dAnd, dOr, dNot, dNeg, dBm, isTy, mApp, sIx, kItem, rowOf, dSl, kSl, dNo, dSo, kInt, kStr, kRepr, kListOf, kIsi, tyN, dFor, dRow, dRng1, dRng2, dComp, wipeE, dYes, dJoin, dJs, dFmt, kFmt, pkS, kI2, kAbs, okq, eqv, okqs, eqvs, kCat, dsOf_map, nostos_d, fzs_d, List.getElem?_cons_zero, List.getElem?_cons_succ, List.set_cons_zero, List.set_cons_succ, List.length_cons, List.length_nil, Option.bind_some, Option.map_some, if_true, if_false, Bool.false_eq_true, decide_eq_true_eq, true_and, List.length_map, ite_self, fzs_map, map_d]
  refine ⟨nostos_map, ?_⟩
  refine forL_ind (fun r env => ∃ (l : List (List Nat)) (o3 : Option W), r = l.map (fun s => W.d (.str s)) ∧ (∀ s ∈ l, okS s 5000) ∧ env = lawE sc A o3 o4 o5 o6 o7 o8 o9) (fun w r env K hI hK => ?_) ⟨A, o3, rfl, hs, rfl⟩ (fun e hI => ?_)
  · obtain ⟨l, o3, er, hl, rfl⟩ := hI
    cases l with
    | nil => cases er
    | cons s l =>
      cases er
      simp only [t_law_10_0, dSeq, dNext, dIf, dOrT, dAndT, dNotT, dBl, kBl, dTru, kTru, DL.truD, dOp, dCl, s1, s2, dCons, dNil, dVar, dMov, dC, kLenN, peek, lenW, noDict, lenD, sCmp, sOrd, sEq, kEq, sIn, sIsN, nonW, sInt, sAdd, sMul, sRows, rowD, flat, dsOf, seqW, dRet, dRetN, dDrop, dBrk, dCnt, dAsg, gN, gTp, gsCons, gsNil, DL.gSub, setW, useD, nosto, nostos, fz, fzs, dCall0, argsD, argD, dLst, dTup, dIte, dAnd, dOr, dNot, dNeg, dBm, isTy, mApp, sIx, kItem, rowOf, dSl, kSl, dNo, dSo, kInt, kStr, kRepr, kListOf, kIsi, tyN, dFor, dRow, dRng1, dRng2, dComp, wipeE, dYes, dJoin, dJs, dFmt, kFmt, pkS, kI2, kAbs, okq, eqv, okqs, eqvs, kCat, dsOf_map, nostos_d, fzs_d, List.getElem?_cons_zero, List.getElem?_cons_succ, List.set_cons_zero, List.set_cons_succ, List.length_cons, List.length_nil, Option.bind_some, Option.map_some, if_true, if_false, Bool.false_eq_true, decide_eq_true_eq, true_and, List.length_map, ite_self, lawE]
      refine ⟨by simp, ?_⟩
      refine call_i ?_
      simp only [dSeq, dNext, dIf, dOrT, dAndT, dNotT, dBl, kBl, dTru, kTru, DL.truD, dOp, dCl, s1, s2, dCons, dNil, dVar, dMov, dC, kLenN, peek, lenW, noDict, lenD, sCmp, sOrd, sEq, kEq, sIn, sIsN, nonW, sInt, sAdd, sMul, sRows, rowD, flat, dsOf, seqW, dRet, dRetN, dDrop, dBrk, dCnt, dAsg, gN, gTp, gsCons, gsNil, DL.gSub, setW, useD, nosto, nostos, fz, fzs, dCall0, argsD, argD, dLst, dTup, dIte, dAnd, dOr, dNot, dNeg, dBm, isTy, mApp, sIx, kItem, rowOf, dSl, kSl, dNo, dSo, kInt, kStr, kRepr, kListOf, kIsi, tyN, dFor, dRow, dRng1, dRng2, dComp, wipeE, dYes, dJoin, dJs, dFmt, kFmt, pkS, kI2, kAbs, okq, eqv, okqs, eqvs, kCat, dsOf_map, nostos_d, fzs_d, List.getElem?_cons_zero, List.getElem?_cons_succ, List.set_cons_zero, List.set_cons_succ, List.length_cons, List.length_nil, Option.bind_some, Option.map_some, if_true, if_false, Bool.false_eq_true, decide_eq_true_eq, true_and, List.length_map, ite_self]
      refine ⟨s, rfl, hl s List.mem_cons_self, rfl, ?_⟩
      simp only [dSeq, dNext, dIf, dOrT, dAndT, dNotT, dBl, kBl, dTru, kTru, DL.truD, dOp, dCl, s1, s2, dCons, dNil, dVar, dMov, dC, kLenN, peek, lenW, noDict, lenD, sCmp, sOrd, sEq, kEq, sIn, sIsN, nonW, sInt, sAdd, sMul, sRows, rowD, flat, dsOf, seqW, dRet, dRetN, dDrop, dBrk, dCnt, dAsg, gN, gTp, gsCons, gsNil, DL.gSub, setW, useD, nosto, nostos, fz, fzs, dCall0, argsD, argD, dLst, dTup, dIte, dAnd, dOr, dNot, dNeg, dBm, isTy, mApp, sIx, kItem, rowOf, dSl, kSl, dNo, dSo, kInt, kStr, kRepr, kListOf, kIsi, tyN, dFor, dRow, dRng1, dRng2, dComp, wipeE, dYes, dJoin, dJs, dFmt, kFmt, pkS, kI2, kAbs, okq, eqv, okqs, eqvs, kCat, dsOf_map, nostos_d, fzs_d, List.getElem?_cons_zero, List.getElem?_cons_succ, List.set_cons_zero, List.set_cons_succ, List.length_cons, List.length_nil, Option.bind_some, Option.map_some, if_true, if_false, Bool.false_eq_true, decide_eq_true_eq, true_and, List.length_map, ite_self, Bool.not_true]
      exact ⟨Nat.zero_le _, hK _ ⟨l, some (.d (.str s)), rfl, fun t m => hl t (List.mem_cons_of_mem _ m), rfl⟩⟩
  · obtain ⟨l, o3, er, hl, rfl⟩ := hI
    exact h _
theorem reps_one (c : Nat) : ∀ n, reps [c] n = List.replicate n c := fun n => by
  unfold reps
  induction n with
  | zero => rfl
  | succ n ih => rw [List.replicate_succ, List.flatten_cons, ih, List.replicate_succ]; rfl
theorem law1 {sc : W} {A : List (List Nat)} {o3 o4 o5 o6 o7 o8 o9 : Option W} (hl : A.length = 33) (hs : ∀ s ∈ A, okS s 60) (h : ∀ B : List (List Nat), B.length ≤ 34 → (∃ C, B = A ++ C) → (∀ s ∈ B, okS s 5000) → t_law_0_2 trueE kf0 [some sc, some .sto, some (.ol (B.map fun s => W.d (.str s))), o3, o4, o5, o6, o7, o8, o9]) : t_law_0_1 trueE kf0 [some sc, some .sto, some (.ol (A.map fun s => W.d (.str s))), o3, o4, o5, o6, o7, o8, o9] := by
  simp only [t_law_0_1, dSeq, dNext, dIf, dOrT, dAndT, dNotT, dBl, kBl, dTru, kTru, DL.truD, dOp, dCl, s1, s2, dCons, dNil, dVar, dMov, dC, kLenN, peek, lenW, noDict, lenD, sCmp, sOrd, sEq, kEq, sIn, sIsN, nonW, sInt, sAdd, sMul, sRows, rowD, flat, dsOf, seqW, dRet, dRetN, dDrop, dBrk, dCnt, dAsg, gN, gTp, gsCons, gsNil, DL.gSub, setW, useD, nosto, nostos, fz, fzs, dCall0, argsD, argD, dLst, dTup, dIte, dAnd, dOr, dNot, dNeg, dBm, isTy, mApp, sIx, kItem, rowOf, dSl, kSl, dNo, dSo, kInt, kStr, kRepr, kListOf, kIsi, tyN, dFor, dRow, dRng1, dRng2, dComp, wipeE, dYes, dJoin, dJs, dFmt, kFmt, pkS, kI2, kAbs, okq, eqv, okqs, eqvs, kCat, dsOf_map, nostos_d, fzs_d, List.getElem?_cons_zero, List.getElem?_cons_succ, List.set_cons_zero, List.set_cons_succ, List.length_cons, List.length_nil, Option.bind_some, Option.map_some, if_true, if_false, Bool.false_eq_true, decide_eq_true_eq, true_and, List.length_map, ite_self]
  refine call_i ?_
  simp only [dSeq, dNext, dIf, dOrT, dAndT, dNotT, dBl, kBl, dTru, kTru, DL.truD, dOp, dCl, s1, s2, dCons, dNil, dVar, dMov, dC, kLenN, peek, lenW, noDict, lenD, sCmp, sOrd, sEq, kEq, sIn, sIsN, nonW, sInt, sAdd, sMul, sRows, rowD, flat, dsOf, seqW, dRet, dRetN, dDrop, dBrk, dCnt, dAsg, gN, gTp, gsCons, gsNil, DL.gSub, setW, useD, nosto, nostos, fz, fzs, dCall0, argsD, argD, dLst, dTup, dIte, dAnd, dOr, dNot, dNeg, dBm, isTy, mApp, sIx, kItem, rowOf, dSl, kSl, dNo, dSo, kInt, kStr, kRepr, kListOf, kIsi, tyN, dFor, dRow, dRng1, dRng2, dComp, wipeE, dYes, dJoin, dJs, dFmt, kFmt, pkS, kI2, kAbs, okq, eqv, okqs, eqvs, kCat, dsOf_map, nostos_d, fzs_d, List.getElem?_cons_zero, List.getElem?_cons_succ, List.set_cons_zero, List.set_cons_succ, List.length_cons, List.length_nil, Option.bind_some, Option.map_some, if_true, if_false, Bool.false_eq_true, decide_eq_true_eq, true_and, List.length_map, ite_self]
  refine ⟨8, rfl, by decide, by decide, fun i i0 i1 => ⟨rfl, ?_⟩⟩
  simp only [dSeq, dNext, dIf, dOrT, dAndT, dNotT, dBl, kBl, dTru, kTru, DL.truD, dOp, dCl, s1, s2, dCons, dNil, dVar, dMov, dC, kLenN, peek, lenW, noDict, lenD, sCmp, sOrd, sEq, kEq, sIn, sIsN, nonW, sInt, sAdd, sMul, sRows, rowD, flat, dsOf, seqW, dRet, dRetN, dDrop, dBrk, dCnt, dAsg, gN, gTp, gsCons, gsNil, DL.gSub, setW, useD, nosto, nostos, fz, fzs, dCall0, argsD, argD, dLst, dTup, dIte, dAnd, dOr, dNot, dNeg, dBm, isTy, mApp, sIx, kItem, rowOf, dSl, kSl, dNo, dSo, kInt, kStr, kRepr, kListOf, kIsi, tyN, dFor, dRow, dRng1, dRng2, dComp, wipeE, dYes, dJoin, dJs, dFmt, kFmt, pkS, kI2, kAbs, okq, eqv, okqs, eqvs, kCat, dsOf_map, nostos_d, fzs_d, List.getElem?_cons_zero, List.getElem?_cons_succ, List.set_cons_zero, List.set_cons_succ, List.length_cons, List.length_nil, Option.bind_some, Option.map_some, if_true, if_false, Bool.false_eq_true, decide_eq_true_eq, true_and, List.length_map, ite_self, Bool.false_bne]
  refine ite_i (fun _ => ?_) (fun _ => h A (by omega) ⟨[], (List.append_nil A).symm⟩ fun s m => okS_le (hs s m) (by decide))
  simp only [t_law_12_0, dSeq, dNext, dIf, dOrT, dAndT, dNotT, dBl, kBl, dTru, kTru, DL.truD, dOp, dCl, s1, s2, dCons, dNil, dVar, dMov, dC, kLenN, peek, lenW, noDict, lenD, sCmp, sOrd, sEq, kEq, sIn, sIsN, nonW, sInt, sAdd, sMul, sRows, rowD, flat, dsOf, seqW, dRet, dRetN, dDrop, dBrk, dCnt, dAsg, gN, gTp, gsCons, gsNil, DL.gSub, setW, useD, nosto, nostos, fz, fzs, dCall0, argsD, argD, dLst, dTup, dIte, dAnd, dOr, dNot, dNeg, dBm, isTy, mApp, sIx, kItem, rowOf, dSl, kSl, dNo, dSo, kInt, kStr, kRepr, kListOf, kIsi, tyN, dFor, dRow, dRng1, dRng2, dComp, wipeE, dYes, dJoin, dJs, dFmt, kFmt, pkS, kI2, kAbs, okq, eqv, okqs, eqvs, kCat, dsOf_map, nostos_d, fzs_d, List.getElem?_cons_zero, List.getElem?_cons_succ, List.set_cons_zero, List.set_cons_succ, List.length_cons, List.length_nil, Option.bind_some, Option.map_some, if_true, if_false, Bool.false_eq_true, decide_eq_true_eq, true_and, List.length_map, ite_self]
  refine useWs_i rfl (useWs_i rfl (useWs_i rfl (useWs_i rfl (useWs_n ⟨szl (by simp), ?_⟩))))
  refine call_i ?_
  simp only [dSeq, dNext, dIf, dOrT, dAndT, dNotT, dBl, kBl, dTru, kTru, DL.truD, dOp, dCl, s1, s2, dCons, dNil, dVar, dMov, dC, kLenN, peek, lenW, noDict, lenD, sCmp, sOrd, sEq, kEq, sIn, sIsN, nonW, sInt, sAdd, sMul, sRows, rowD, flat, dsOf, seqW, dRet, dRetN, dDrop, dBrk, dCnt, dAsg, gN, gTp, gsCons, gsNil, DL.gSub, setW, useD, nosto, nostos, fz, fzs, dCall0, argsD, argD, dLst, dTup, dIte, dAnd, dOr, dNot, dNeg, dBm, isTy, mApp, sIx, kItem, rowOf, dSl, kSl, dNo, dSo, kInt, kStr, kRepr, kListOf, kIsi, tyN, dFor, dRow, dRng1, dRng2, dComp, wipeE, dYes, dJoin, dJs, dFmt, kFmt, pkS, kI2, kAbs, okq, eqv, okqs, eqvs, kCat, dsOf_map, nostos_d, fzs_d, List.getElem?_cons_zero, List.getElem?_cons_succ, List.set_cons_zero, List.set_cons_succ, List.length_cons, List.length_nil, Option.bind_some, Option.map_some, if_true, if_false, Bool.false_eq_true, decide_eq_true_eq, true_and, List.length_map, ite_self]
  refine ⟨4, rfl, by decide, by decide, fun j j0 j1 => ⟨rfl, ?_⟩⟩
  obtain ⟨x, ex, mx⟩ := at_inL (s := [W.d (.str []), W.d (.str [114]), W.d (.str [99]), W.d (.str [45])]) j0 (by simpa using j1)
  simp only [dSeq, dNext, dIf, dOrT, dAndT, dNotT, dBl, kBl, dTru, kTru, DL.truD, dOp, dCl, s1, s2, dCons, dNil, dVar, dMov, dC, kLenN, peek, lenW, noDict, lenD, sCmp, sOrd, sEq, kEq, sIn, sIsN, nonW, sInt, sAdd, sMul, sRows, rowD, flat, dsOf, seqW, dRet, dRetN, dDrop, dBrk, dCnt, dAsg, gN, gTp, gsCons, gsNil, DL.gSub, setW, useD, nosto, nostos, fz, fzs, dCall0, argsD, argD, dLst, dTup, dIte, dAnd, dOr, dNot, dNeg, dBm, isTy, mApp, sIx, kItem, rowOf, dSl, kSl, dNo, dSo, kInt, kStr, kRepr, kListOf, kIsi, tyN, dFor, dRow, dRng1, dRng2, dComp, wipeE, dYes, dJoin, dJs, dFmt, kFmt, pkS, kI2, kAbs, okq, eqv, okqs, eqvs, kCat, dsOf_map, nostos_d, fzs_d, List.getElem?_cons_zero, List.getElem?_cons_succ, List.set_cons_zero, List.set_cons_succ, List.length_cons, List.length_nil, Option.bind_some, Option.map_some, if_true, if_false, Bool.false_eq_true, decide_eq_true_eq, true_and, List.length_map, ite_self, ex]
  have hx : ∃ s, x = .d (.str s) ∧ okS s 1 := by
    simp only [List.mem_cons, List.not_mem_nil, or_false] at mx
    rcases mx with rfl | rfl | rfl | rfl
    · exact ⟨_, rfl, by simp, by simp⟩
    · exact ⟨_, rfl, okS_one (by decide)⟩
    · exact ⟨_, rfl, okS_one (by decide)⟩
    · exact ⟨_, rfl, okS_one (by decide)⟩
  obtain ⟨s, rfl, hs1⟩ := hx
  simp only [dSeq, dNext, dIf, dOrT, dAndT, dNotT, dBl, kBl, dTru, kTru, DL.truD, dOp, dCl, s1, s2, dCons, dNil, dVar, dMov, dC, kLenN, peek, lenW, noDict, lenD, sCmp, sOrd, sEq, kEq, sIn, sIsN, nonW, sInt, sAdd, sMul, sRows, rowD, flat, dsOf, seqW, dRet, dRetN, dDrop, dBrk, dCnt, dAsg, gN, gTp, gsCons, gsNil, DL.gSub, setW, useD, nosto, nostos, fz, fzs, dCall0, argsD, argD, dLst, dTup, dIte, dAnd, dOr, dNot, dNeg, dBm, isTy, mApp, sIx, kItem, rowOf, dSl, kSl, dNo, dSo, kInt, kStr, kRepr, kListOf, kIsi, tyN, dFor, dRow, dRng1, dRng2, dComp, wipeE, dYes, dJoin, dJs, dFmt, kFmt, pkS, kI2, kAbs, okq, eqv, okqs, eqvs, kCat, dsOf_map, nostos_d, fzs_d, List.getElem?_cons_zero, List.getElem?_cons_succ, List.set_cons_zero, List.set_cons_succ, List.length_cons, List.length_nil, Option.bind_some, Option.map_some, if_true, if_false, Bool.false_eq_true, decide_eq_true_eq, true_and, List.length_map, ite_self]
  refine call_i ?_
  simp only [dSeq, dNext, dIf, dOrT, dAndT, dNotT, dBl, kBl, dTru, kTru, DL.truD, dOp, dCl, s1, s2, dCons, dNil, dVar, dMov, dC, kLenN, peek, lenW, noDict, lenD, sCmp, sOrd, sEq, kEq, sIn, sIsN, nonW, sInt, sAdd, sMul, sRows, rowD, flat, dsOf, seqW, dRet, dRetN, dDrop, dBrk, dCnt, dAsg, gN, gTp, gsCons, gsNil, DL.gSub, setW, useD, nosto, nostos, fz, fzs, dCall0, argsD, argD, dLst, dTup, dIte, dAnd, dOr, dNot, dNeg, dBm, isTy, mApp, sIx, kItem, rowOf, dSl, kSl, dNo, dSo, kInt, kStr, kRepr, kListOf, kIsi, tyN, dFor, dRow, dRng1, dRng2, dComp, wipeE, dYes, dJoin, dJs, dFmt, kFmt, pkS, kI2, kAbs, okq, eqv, okqs, eqvs, kCat, dsOf_map, nostos_d, fzs_d, List.getElem?_cons_zero, List.getElem?_cons_succ, List.set_cons_zero, List.set_cons_succ, List.length_cons, List.length_nil, Option.bind_some, Option.map_some, if_true, if_false, Bool.false_eq_true, decide_eq_true_eq, true_and, List.length_map, ite_self]
  refine ⟨10, rfl, by decide, by decide, fun q q0 q1 => ⟨rfl, ?_⟩⟩
  obtain ⟨c, ec, mc⟩ := at_in (s := [48, 49, 50, 51, 52, 53, 54, 55, 56, 57]) q0 (by simpa using q1)
  have c128 : c < 128 := (by decide : ∀ c ∈ ([48, 49, 50, 51, 52, 53, 54, 55, 56, 57] : List Nat), c < 128) c mc
  simp only [dSeq, dNext, dIf, dOrT, dAndT, dNotT, dBl, kBl, dTru, kTru, DL.truD, dOp, dCl, s1, s2, dCons, dNil, dVar, dMov, dC, kLenN, peek, lenW, noDict, lenD, sCmp, sOrd, sEq, kEq, sIn, sIsN, nonW, sInt, sAdd, sMul, sRows, rowD, flat, dsOf, seqW, dRet, dRetN, dDrop, dBrk, dCnt, dAsg, gN, gTp, gsCons, gsNil, DL.gSub, setW, useD, nosto, nostos, fz, fzs, dCall0, argsD, argD, dLst, dTup, dIte, dAnd, dOr, dNot, dNeg, dBm, isTy, mApp, sIx, kItem, rowOf, dSl, kSl, dNo, dSo, kInt, kStr, kRepr, kListOf, kIsi, tyN, dFor, dRow, dRng1, dRng2, dComp, wipeE, dYes, dJoin, dJs, dFmt, kFmt, pkS, kI2, kAbs, okq, eqv, okqs, eqvs, kCat, dsOf_map, nostos_d, fzs_d, List.getElem?_cons_zero, List.getElem?_cons_succ, List.set_cons_zero, List.set_cons_succ, List.length_cons, List.length_nil, Option.bind_some, Option.map_some, if_true, if_false, Bool.false_eq_true, decide_eq_true_eq, true_and, List.length_map, ite_self, ec]
  have e3 : reps [c] (Int.toNat 3999) = List.replicate 3999 c := reps_one c 3999
  rw [e3]
  have ok : okS (s ++ List.replicate 3999 c) 4000 := okS_le (okS_app hs1 (b := List.replicate 3999 c) (m := 3999) ⟨by rw [List.length_replicate]; exact Nat.le_refl _, fun x m => by rw [List.eq_of_mem_replicate m]; exact c128⟩) (by decide)
  have z := ok.1
  rw [List.length_append] at z
  refine ⟨szl (by decide), ⟨by decide, by decide, szl (by decide)⟩, szl (by omega), useW_i rfl ?_⟩
  simp only [dSeq, dNext, dIf, dOrT, dAndT, dNotT, dBl, kBl, dTru, kTru, DL.truD, dOp, dCl, s1, s2, dCons, dNil, dVar, dMov, dC, kLenN, peek, lenW, noDict, lenD, sCmp, sOrd, sEq, kEq, sIn, sIsN, nonW, sInt, sAdd, sMul, sRows, rowD, flat, dsOf, seqW, dRet, dRetN, dDrop, dBrk, dCnt, dAsg, gN, gTp, gsCons, gsNil, DL.gSub, setW, useD, nosto, nostos, fz, fzs, dCall0, argsD, argD, dLst, dTup, dIte, dAnd, dOr, dNot, dNeg, dBm, isTy, mApp, sIx, kItem, rowOf, dSl, kSl, dNo, dSo, kInt, kStr, kRepr, kListOf, kIsi, tyN, dFor, dRow, dRng1, dRng2, dComp, wipeE, dYes, dJoin, dJs, dFmt, kFmt, pkS, kI2, kAbs, okq, eqv, okqs, eqvs, kCat, dsOf_map, nostos_d, fzs_d, List.getElem?_cons_zero, List.getElem?_cons_succ, List.set_cons_zero, List.set_cons_succ, List.length_cons, List.length_nil, Option.bind_some, Option.map_some, if_true, if_false, Bool.false_eq_true, decide_eq_true_eq, true_and, List.length_map, ite_self]
  refine ⟨szl (by omega), ?_⟩
  have := h (A ++ [s ++ List.replicate 3999 c]) (by rw [List.length_append]; simp only [List.length_cons, List.length_nil]; omega) ⟨_, rfl⟩ (fun t m => (List.mem_append.mp m).elim (fun m => okS_le (hs t m) (by decide)) fun m => by rw [List.mem_singleton.mp m]; exact okS_le ok (by decide))
  rw [List.map_append] at this
  exact this
theorem p_law : ∀ ns : List Int, ns.length ≤ 63 → t_law trueE kf0 ((startE N_law [.d (.klst (ns.map .int))]).set 1 (some .sto)) := fun ns _ => by
  show t_law_0_0 trueE kf0 [some (.d (.klst (ns.map .int))), some .sto, none, none, none, none, none, none, none, none]
  have fin : ∀ A : List (List Nat), A.length = 33 → (∀ s ∈ A, okS s 60) → t_law_0_1 trueE kf0 [some (.d (.klst (ns.map .int))), some .sto, some (.ol (A.map fun s => W.d (.str s))), none, none, none, none, none, none, none] := fun A hl hs => by
    refine law1 hl hs fun B hB ⟨C, eB⟩ hsB => law2 hsB fun o3 => law3 fun nl hn => law4 hn fun o3 o4 o5 o6 => law5 fun o3 o7 o8 o9 => law6 (by omega) hsB (law7 fun o9 => law8 (by rw [eB, List.length_append]; omega) fun i s hi e => ?_)
    refine hs s ?_
    rw [eB, List.getElem?_append_left (by omega)] at e
    exact List.mem_of_getElem? e
  generalize (W.d (D.klst (ns.map .int))) = sc at fin ⊢
  simp only [t_law_0_0, dSeq, dNext, dIf, dOrT, dAndT, dNotT, dBl, kBl, dTru, kTru, DL.truD, dOp, dCl, s1, s2, dCons, dNil, dVar, dMov, dC, kLenN, peek, lenW, noDict, lenD, sCmp, sOrd, sEq, kEq, sIn, sIsN, nonW, sInt, sAdd, sMul, sRows, rowD, flat, dsOf, seqW, dRet, dRetN, dDrop, dBrk, dCnt, dAsg, gN, gTp, gsCons, gsNil, DL.gSub, setW, useD, nosto, nostos, fz, fzs, dCall0, argsD, argD, dLst, dTup, dIte, dAnd, dOr, dNot, dNeg, dBm, isTy, mApp, sIx, kItem, rowOf, dSl, kSl, dNo, dSo, kInt, kStr, kRepr, kListOf, kIsi, tyN, dFor, dRow, dRng1, dRng2, dComp, wipeE, dYes, dJoin, dJs, dFmt, kFmt, pkS, kI2, kAbs, okq, eqv, okqs, eqvs, kCat, dsOf_map, nostos_d, fzs_d, List.getElem?_cons_zero, List.getElem?_cons_succ, List.set_cons_zero, List.set_cons_succ, List.length_cons, List.length_nil, Option.bind_some, Option.map_some, if_true, if_false, Bool.false_eq_true, decide_eq_true_eq, true_and, List.length_map, ite_self]
  refine useWs_i rfl (useWs_i rfl (useWs_i rfl (useWs_i rfl (useWs_i rfl (useWs_i rfl (useWs_i rfl (useWs_i rfl (useWs_i rfl (useWs_n ⟨szl (by simp), ?_⟩)))))))))
  simp only [dSeq, dNext, dIf, dOrT, dAndT, dNotT, dBl, kBl, dTru, kTru, DL.truD, dOp, dCl, s1, s2, dCons, dNil, dVar, dMov, dC, kLenN, peek, lenW, noDict, lenD, sCmp, sOrd, sEq, kEq, sIn, sIsN, nonW, sInt, sAdd, sMul, sRows, rowD, flat, dsOf, seqW, dRet, dRetN, dDrop, dBrk, dCnt, dAsg, gN, gTp, gsCons, gsNil, DL.gSub, setW, useD, nosto, nostos, fz, fzs, dCall0, argsD, argD, dLst, dTup, dIte, dAnd, dOr, dNot, dNeg, dBm, isTy, mApp, sIx, kItem, rowOf, dSl, kSl, dNo, dSo, kInt, kStr, kRepr, kListOf, kIsi, tyN, dFor, dRow, dRng1, dRng2, dComp, wipeE, dYes, dJoin, dJs, dFmt, kFmt, pkS, kI2, kAbs, okq, eqv, okqs, eqvs, kCat, dsOf_map, nostos_d, fzs_d, List.getElem?_cons_zero, List.getElem?_cons_succ, List.set_cons_zero, List.set_cons_succ, List.length_cons, List.length_nil, Option.bind_some, Option.map_some, if_true, if_false, Bool.false_eq_true, decide_eq_true_eq, true_and, List.length_map, ite_self]
  refine ⟨⟨by decide, by decide⟩, ?_⟩
  refine compL_any (fun y => ∃ s, okS s 60 ∧ y = .d (.str s)) (fun w hw acc K hK ha => ?_) (by rw [rangeW_len]; exact szl (by decide)) (fun ys ly hy => ?_)
  · simp only [compStep, dSeq, dNext, dIf, dOrT, dAndT, dNotT, dBl, kBl, dTru, kTru, DL.truD, dOp, dCl, s1, s2, dCons, dNil, dVar, dMov, dC, kLenN, peek, lenW, noDict, lenD, sCmp, sOrd, sEq, kEq, sIn, sIsN, nonW, sInt, sAdd, sMul, sRows, rowD, flat, dsOf, seqW, dRet, dRetN, dDrop, dBrk, dCnt, dAsg, gN, gTp, gsCons, gsNil, DL.gSub, setW, useD, nosto, nostos, fz, fzs, dCall0, argsD, argD, dLst, dTup, dIte, dAnd, dOr, dNot, dNeg, dBm, isTy, mApp, sIx, kItem, rowOf, dSl, kSl, dNo, dSo, kInt, kStr, kRepr, kListOf, kIsi, tyN, dFor, dRow, dRng1, dRng2, dComp, wipeE, dYes, dJoin, dJs, dFmt, kFmt, pkS, kI2, kAbs, okq, eqv, okqs, eqvs, kCat, dsOf_map, nostos_d, fzs_d, List.getElem?_cons_zero, List.getElem?_cons_succ, List.set_cons_zero, List.set_cons_succ, List.length_cons, List.length_nil, Option.bind_some, Option.map_some, if_true, if_false, Bool.false_eq_true, decide_eq_true_eq, true_and, List.length_map, ite_self]
    refine ⟨by simp, ?_⟩
    refine call_i ?_
    simp only [dSeq, dNext, dIf, dOrT, dAndT, dNotT, dBl, kBl, dTru, kTru, DL.truD, dOp, dCl, s1, s2, dCons, dNil, dVar, dMov, dC, kLenN, peek, lenW, noDict, lenD, sCmp, sOrd, sEq, kEq, sIn, sIsN, nonW, sInt, sAdd, sMul, sRows, rowD, flat, dsOf, seqW, dRet, dRetN, dDrop, dBrk, dCnt, dAsg, gN, gTp, gsCons, gsNil, DL.gSub, setW, useD, nosto, nostos, fz, fzs, dCall0, argsD, argD, dLst, dTup, dIte, dAnd, dOr, dNot, dNeg, dBm, isTy, mApp, sIx, kItem, rowOf, dSl, kSl, dNo, dSo, kInt, kStr, kRepr, kListOf, kIsi, tyN, dFor, dRow, dRng1, dRng2, dComp, wipeE, dYes, dJoin, dJs, dFmt, kFmt, pkS, kI2, kAbs, okq, eqv, okqs, eqvs, kCat, dsOf_map, nostos_d, fzs_d, List.getElem?_cons_zero, List.getElem?_cons_succ, List.set_cons_zero, List.set_cons_succ, List.length_cons, List.length_nil, Option.bind_some, Option.map_some, if_true, if_false, Bool.false_eq_true, decide_eq_true_eq, true_and, List.length_map, ite_self]
    refine ⟨rfl, fun s hs => ⟨rfl, ?_⟩⟩
    refine useW_i rfl ?_
    exact ⟨ha, hK _ ⟨s, hs, rfl⟩⟩
  · obtain ⟨ss, rfl, hs⟩ := choose_map hy
    rw [List.length_map, rangeW_len] at ly
    rw [List.nil_append]
    have ed : dsOf (ss.map fun s => W.d (.str s)) = some (ss.map .str) := dsOf_map2
    simp only [dSeq, dNext, dIf, dOrT, dAndT, dNotT, dBl, kBl, dTru, kTru, DL.truD, dOp, dCl, s1, s2, dCons, dNil, dVar, dMov, dC, kLenN, peek, lenW, noDict, lenD, sCmp, sOrd, sEq, kEq, sIn, sIsN, nonW, sInt, sAdd, sMul, sRows, rowD, flat, dsOf, seqW, dRet, dRetN, dDrop, dBrk, dCnt, dAsg, gN, gTp, gsCons, gsNil, DL.gSub, setW, useD, nosto, nostos, fz, fzs, dCall0, argsD, argD, dLst, dTup, dIte, dAnd, dOr, dNot, dNeg, dBm, isTy, mApp, sIx, kItem, rowOf, dSl, kSl, dNo, dSo, kInt, kStr, kRepr, kListOf, kIsi, tyN, dFor, dRow, dRng1, dRng2, dComp, wipeE, dYes, dJoin, dJs, dFmt, kFmt, pkS, kI2, kAbs, okq, eqv, okqs, eqvs, kCat, dsOf_map, nostos_d, fzs_d, List.getElem?_cons_zero, List.getElem?_cons_succ, List.set_cons_zero, List.set_cons_succ, List.length_cons, List.length_nil, Option.bind_some, Option.map_some, if_true, if_false, Bool.false_eq_true, decide_eq_true_eq, true_and, List.length_map, ite_self, ed]
    have l24 : ss.length = 24 := ly
    refine ⟨szl (by omega), useW_i nostos_d ⟨by simp, ?_⟩⟩
    have := fin ([[], [48], [48, 48], [49, 48], [45], [114, 48], [99, 48, 48], [114], [97]] ++ ss) (by rw [List.length_append, l24]; rfl) (fun s m => (List.mem_append.mp m).elim (fun m => by
      have b : ∀ s ∈ ([[], [48], [48, 48], [49, 48], [45], [114, 48], [99, 48, 48], [114], [97]] : List (List Nat)), (decide (s.length ≤ 60) && s.all (· < 128)) = true := by decide
      obtain ⟨h1, h2⟩ := band (b s m)
      exact ⟨of_decide_eq_true h1, fun c m => of_decide_eq_true (List.all_eq_true.mp h2 c m)⟩) (hs s))
    rw [List.map_append] at this ⊢
    rw [map_d]
    exact this
end Lk27

namespace Lk27
open PySem PySem.Spec
open PyProof.Rows L2 DL
section
variable {P : Program} {w : World} {K : PySem.W.Frag} {mg : Str → Option Value} {base : Heap} {f : Addr} {fd : FuncData}
abbrev FnP (K : PySem.W.Frag) (x : Str) (st : Stmt) (f : Addr) (fd : FuncData) : Prop := FunD K x x (defArgs st) (defBody st) (defScope st) [] [] f fd
theorem ok_read_number (F : FnP K "read_number" st_read_number f fd) (m_int : mg "int" = none) (m_len : mg "len" = none) (m_all : mg "all" = none) (g_DIGITS : ∃ t, mg "DIGITS" = some (.str "0123456789" t)) : FnOk P w K mg base (L2N.CX P w) 1 f fd ps_read_number (toSp K mg ps_read_number.length S_read_number) :=
  fnok F sc_read_number (fun X e1 e2 e3 e4 e5 h ho => w_read_number h ho (none_here e4 m_int) (none_here e4 m_len) (none_here e4 m_all) (str_here e4 g_DIGITS)) p_read_number
theorem ok_cut_word (F : FnP K "cut_word" st_cut_word f fd) : FnOk P w K mg base (L2N.CX P w) 1 f fd ps_cut_word (toSp K mg ps_cut_word.length S_cut_word) :=
  fnok F sc_cut_word (fun X e1 e2 e3 e4 e5 h ho => w_cut_word h ho) p_cut_word
theorem ok_place_word (F : FnP K "place_word" st_place_word f fd) (m_str : mg "str" = none) : FnOk P w K mg base (L2N.CX P w) 1 f fd ps_place_word (toSp K mg ps_place_word.length S_place_word) :=
  fnok F sc_place_word (fun X e1 e2 e3 e4 e5 h ho => w_place_word h ho (none_here e4 m_str)) p_place_word
theorem ok_read_places (F : FnP K "read_places" st_read_places f fd) (m_len : mg "len" = none) (m_int : mg "int" = none) (g_DIGITS : ∃ t, mg "DIGITS" = some (.str "0123456789" t)) : FnOk P w K mg base (L2N.CX P w) 1 f fd ps_read_places (toSp K mg ps_read_places.length S_read_places) :=
  fnok F sc_read_places (fun X e1 e2 e3 e4 e5 h ho => w_read_places h ho (none_here e4 m_len) (none_here e4 m_int) (str_here e4 g_DIGITS)) p_read_places
theorem ok_is_name (F : FnP K "is_name" st_is_name f fd) (m_all : mg "all" = none) (m_len : mg "len" = none) (g_SMALL_LETTERS : ∃ t, mg "SMALL_LETTERS" = some (.str "abcdefghijklmnopqrstuvwxyz" t)) : FnOk P w K mg base (L2N.CX P w) 1 f fd ps_is_name (toSp K mg ps_is_name.length S_is_name) :=
  fnok F sc_is_name (fun X e1 e2 e3 e4 e5 h ho => w_is_name h ho (none_here e4 m_all) (none_here e4 m_len) (str_here e4 g_SMALL_LETTERS)) p_is_name
theorem ok_split_line (F : FnP K "split_line" st_split_line f fd) : FnOk P w K mg base (L2N.CX P w) 1 f fd ps_split_line (toSp K mg ps_split_line.length S_split_line) :=
  fnok F sc_split_line (fun X e1 e2 e3 e4 e5 h ho => w_split_line h ho) p_split_line
theorem ok__law_store (F : FnP K "_law_store" st__law_store f fd) (m_len : mg "len" = none) (m_abs : mg "abs" = none) (m_int : mg "int" = none) : FnOk P w K mg base (L2N.CX P w) 1 f fd ps__law_store (toSp K mg ps__law_store.length S__law_store) :=
  fnok F sc__law_store (fun X e1 e2 e3 e4 e5 h ho => w__law_store h ho (none_here e4 m_len) (none_here e4 m_abs) (none_here e4 m_int)) p__law_store
theorem ok__law_take (F : FnP K "_law_take" st__law_take f fd) (m_int : mg "int" = none) (m_max : mg "max" = none) (m_len : mg "len" = none) : FnOk P w K mg base (L2N.CX P w) 1 f fd ps__law_take (toSp K mg 2 S__law_take) :=
  fnok_take F sc__law_take (fun X e1 e2 e3 e4 e5 h ho => w__law_take h ho (none_here e4 m_int) (none_here e4 m_max) (none_here e4 m_len)) p__law_take
theorem ok__law_plain (F : FnP K "_law_plain" st__law_plain f fd) (m_range : mg "range" = none) (m_tuple : mg "tuple" = none) (m_isinstance : mg "isinstance" = none) (m_list : mg "list" = none) (m_len : mg "len" = none) (m_int : mg "int" = none) (m_bool : mg "bool" = none) (m_repr : mg "repr" = none) (m_str : mg "str" = none) : FnOk P w K mg base (L2N.CX P w) 1 f fd ps__law_plain (toSp K mg ps__law_plain.length S__law_plain) :=
  fnok F sc__law_plain (fun X e1 e2 e3 e4 e5 h ho => w__law_plain h ho (none_here e4 m_range) (none_here e4 m_tuple) (none_here e4 m_isinstance) (none_here e4 m_list) (none_here e4 m_len) (none_here e4 m_int) (none_here e4 m_bool) (none_here e4 m_repr) (none_here e4 m_str)) p__law_plain
theorem ok__law_number (F : FnP K "_law_number" st__law_number f fd) (m_len : mg "len" = none) : FnOk P w K mg base (L2N.CX P w) 1 f fd ps__law_number (toSp K mg ps__law_number.length S__law_number) :=
  fnok F sc__law_number (fun X e1 e2 e3 e4 e5 h ho => w__law_number h ho (none_here e4 m_len)) p__law_number
theorem ok__law_named (F : FnP K "_law_named" st__law_named f fd) (m_len : mg "len" = none) : FnOk P w K mg base (L2N.CX P w) 1 f fd ps__law_named (toSp K mg ps__law_named.length S__law_named) :=
  fnok F sc__law_named (fun X e1 e2 e3 e4 e5 h ho => w__law_named h ho (none_here e4 m_len)) p__law_named
theorem ok__law_first (F : FnP K "_law_first" st__law_first f fd) : FnOk P w K mg base (L2N.CX P w) 1 f fd ps__law_first (toSp K mg ps__law_first.length S__law_first) :=
  fnok F sc__law_first (fun X e1 e2 e3 e4 e5 h ho => w__law_first h ho) p__law_first
theorem ok__law_parted (F : FnP K "_law_parted" st__law_parted f fd) (m_len : mg "len" = none) : FnOk P w K mg base (L2N.CX P w) 1 f fd ps__law_parted (toSp K mg ps__law_parted.length S__law_parted) :=
  fnok F sc__law_parted (fun X e1 e2 e3 e4 e5 h ho => w__law_parted h ho (none_here e4 m_len)) p__law_parted
theorem ok_read_cut (F : FnP K "read_cut" st_read_cut f fd) (c_read_number : DFn P w K mg base "read_number" ps_read_number 1 S_read_number) : FnOk P w K mg base (L2N.CX P w) 2 f fd ps_read_cut (toSp K mg ps_read_cut.length S_read_cut) :=
  fnok F sc_read_cut (fun X e1 e2 e3 e4 e5 h ho => w_read_cut h ho (c_read_number.here e1 e2 e3 e4 e5) rfl) p_read_cut
theorem ok__law_pick (F : FnP K "_law_pick" st__law_pick f fd) (c__law_take : DFn P w K mg base "_law_take" ps__law_take 1 S__law_take) (m_len : mg "len" = none) : FnOk P w K mg base (L2N.CX P w) 2 f fd ps__law_pick (toSp K mg ps__law_pick.length S__law_pick) :=
  fnok F sc__law_pick (fun X e1 e2 e3 e4 e5 h ho => w__law_pick h ho (c__law_take.here e1 e2 e3 e4 e5) rfl (none_here e4 m_len)) p__law_pick
theorem ok__law_between (F : FnP K "_law_between" st__law_between f fd) (c__law_take : DFn P w K mg base "_law_take" ps__law_take 1 S__law_take) : FnOk P w K mg base (L2N.CX P w) 2 f fd ps__law_between (toSp K mg ps__law_between.length S__law_between) :=
  fnok F sc__law_between (fun X e1 e2 e3 e4 e5 h ho => w__law_between h ho (c__law_take.here e1 e2 e3 e4 e5) rfl) p__law_between
theorem ok__law_char (F : FnP K "_law_char" st__law_char f fd) (c__law_take : DFn P w K mg base "_law_take" ps__law_take 1 S__law_take) (m_len : mg "len" = none) : FnOk P w K mg base (L2N.CX P w) 2 f fd ps__law_char (toSp K mg ps__law_char.length S__law_char) :=
  fnok F sc__law_char (fun X e1 e2 e3 e4 e5 h ho => w__law_char h ho (c__law_take.here e1 e2 e3 e4 e5) rfl (none_here e4 m_len)) p__law_char
theorem ok__law_alike (F : FnP K "_law_alike" st__law_alike f fd) (c__law_plain : DFn P w K mg base "_law_plain" ps__law_plain 1 S__law_plain) : FnOk P w K mg base (L2N.CX P w) 2 f fd ps__law_alike (toSp K mg ps__law_alike.length S__law_alike) :=
  fnok F sc__law_alike (fun X e1 e2 e3 e4 e5 h ho => w__law_alike h ho (c__law_plain.here e1 e2 e3 e4 e5) rfl) p__law_alike
theorem ok__law_cut (F : FnP K "_law_cut" st__law_cut f fd) (c__law_number : DFn P w K mg base "_law_number" ps__law_number 1 S__law_number) : FnOk P w K mg base (L2N.CX P w) 2 f fd ps__law_cut (toSp K mg ps__law_cut.length S__law_cut) :=
  fnok F sc__law_cut (fun X e1 e2 e3 e4 e5 h ho => w__law_cut h ho (c__law_number.here e1 e2 e3 e4 e5) rfl) p__law_cut
theorem ok__law_spot (F : FnP K "_law_spot" st__law_spot f fd) (c__law_number : DFn P w K mg base "_law_number" ps__law_number 1 S__law_number) : FnOk P w K mg base (L2N.CX P w) 2 f fd ps__law_spot (toSp K mg ps__law_spot.length S__law_spot) :=
  fnok F sc__law_spot (fun X e1 e2 e3 e4 e5 h ho => w__law_spot h ho (c__law_number.here e1 e2 e3 e4 e5) rfl) p__law_spot
theorem ok__law_text (F : FnP K "_law_text" st__law_text f fd) (c__law_between : DFn P w K mg base "_law_between" ps__law_between 2 S__law_between) (c__law_char : DFn P w K mg base "_law_char" ps__law_char 2 S__law_char) (m_range : mg "range" = none) : FnOk P w K mg base (L2N.CX P w) 3 f fd ps__law_text (toSp K mg ps__law_text.length S__law_text) :=
  fnok F sc__law_text (fun X e1 e2 e3 e4 e5 h ho => w__law_text h ho (c__law_between.here e1 e2 e3 e4 e5) rfl (c__law_char.here e1 e2 e3 e4 e5) rfl (none_here e4 m_range)) p__law_text
theorem ok__law_name (F : FnP K "_law_name" st__law_name f fd) (c__law_between : DFn P w K mg base "_law_between" ps__law_between 2 S__law_between) (c__law_take : DFn P w K mg base "_law_take" ps__law_take 1 S__law_take) (m_range : mg "range" = none) : FnOk P w K mg base (L2N.CX P w) 3 f fd ps__law_name (toSp K mg ps__law_name.length S__law_name) :=
  fnok F sc__law_name (fun X e1 e2 e3 e4 e5 h ho => w__law_name h ho (c__law_between.here e1 e2 e3 e4 e5) rfl (c__law_take.here e1 e2 e3 e4 e5) rfl (none_here e4 m_range)) p__law_name
theorem ok__law_spots (F : FnP K "_law_spots" st__law_spots f fd) (c__law_spot : DFn P w K mg base "_law_spot" ps__law_spot 2 S__law_spot) : FnOk P w K mg base (L2N.CX P w) 3 f fd ps__law_spots (toSp K mg ps__law_spots.length S__law_spots) :=
  fnok F sc__law_spots (fun X e1 e2 e3 e4 e5 h ho => w__law_spots h ho (c__law_spot.here e1 e2 e3 e4 e5) rfl) p__law_spots
theorem ok__law_digits (F : FnP K "_law_digits" st__law_digits f fd) (c__law_between : DFn P w K mg base "_law_between" ps__law_between 2 S__law_between) (c__law_char : DFn P w K mg base "_law_char" ps__law_char 2 S__law_char) (c__law_take : DFn P w K mg base "_law_take" ps__law_take 1 S__law_take) (m_len : mg "len" = none) (m_range : mg "range" = none) : FnOk P w K mg base (L2N.CX P w) 3 f fd ps__law_digits (toSp K mg ps__law_digits.length S__law_digits) :=
  fnok F sc__law_digits (fun X e1 e2 e3 e4 e5 h ho => w__law_digits h ho (c__law_between.here e1 e2 e3 e4 e5) rfl (c__law_char.here e1 e2 e3 e4 e5) rfl (c__law_take.here e1 e2 e3 e4 e5) rfl (none_here e4 m_len) (none_here e4 m_range)) p__law_digits
theorem ok__law_line_right (F : FnP K "_law_line_right" st__law_line_right f fd) (c_split_line : DFn P w K mg base "split_line" ps_split_line 1 S_split_line) (c__law_alike : DFn P w K mg base "_law_alike" ps__law_alike 2 S__law_alike) (c__law_parted : DFn P w K mg base "_law_parted" ps__law_parted 1 S__law_parted) : FnOk P w K mg base (L2N.CX P w) 3 f fd ps__law_line_right (toSp K mg ps__law_line_right.length S__law_line_right) :=
  fnok F sc__law_line_right (fun X e1 e2 e3 e4 e5 h ho => w__law_line_right h ho (c_split_line.here e1 e2 e3 e4 e5) rfl (c__law_alike.here e1 e2 e3 e4 e5) rfl (c__law_parted.here e1 e2 e3 e4 e5) rfl) p__law_line_right
theorem ok__law_line (F : FnP K "_law_line" st__law_line f fd) (c__law_take : DFn P w K mg base "_law_take" ps__law_take 1 S__law_take) (c__law_char : DFn P w K mg base "_law_char" ps__law_char 2 S__law_char) (c__law_between : DFn P w K mg base "_law_between" ps__law_between 2 S__law_between) (m_range : mg "range" = none) : FnOk P w K mg base (L2N.CX P w) 3 f fd ps__law_line (toSp K mg ps__law_line.length S__law_line) :=
  fnok F sc__law_line (fun X e1 e2 e3 e4 e5 h ho => w__law_line h ho (c__law_take.here e1 e2 e3 e4 e5) rfl (c__law_char.here e1 e2 e3 e4 e5) rfl (c__law_between.here e1 e2 e3 e4 e5) rfl (none_here e4 m_range)) p__law_line
theorem ok__law_word (F : FnP K "_law_word" st__law_word f fd) (c__law_pick : DFn P w K mg base "_law_pick" ps__law_pick 2 S__law_pick) (c__law_take : DFn P w K mg base "_law_take" ps__law_take 1 S__law_take) (c__law_text : DFn P w K mg base "_law_text" ps__law_text 3 S__law_text) : FnOk P w K mg base (L2N.CX P w) 4 f fd ps__law_word (toSp K mg ps__law_word.length S__law_word) :=
  fnok F sc__law_word (fun X e1 e2 e3 e4 e5 h ho => w__law_word h ho (c__law_pick.here e1 e2 e3 e4 e5) rfl (c__law_take.here e1 e2 e3 e4 e5) rfl (c__law_text.here e1 e2 e3 e4 e5) rfl) p__law_word
theorem ok__law_word_right (F : FnP K "_law_word_right" st__law_word_right f fd) (c__law_spots : DFn P w K mg base "_law_spots" ps__law_spots 3 S__law_spots) (c__law_alike : DFn P w K mg base "_law_alike" ps__law_alike 2 S__law_alike) (c__law_named : DFn P w K mg base "_law_named" ps__law_named 1 S__law_named) (c__law_cut : DFn P w K mg base "_law_cut" ps__law_cut 2 S__law_cut) (c__law_first : DFn P w K mg base "_law_first" ps__law_first 1 S__law_first) (c__law_number : DFn P w K mg base "_law_number" ps__law_number 1 S__law_number) (c_read_places : DFn P w K mg base "read_places" ps_read_places 1 S_read_places) (c_is_name : DFn P w K mg base "is_name" ps_is_name 1 S_is_name) (c_read_cut : DFn P w K mg base "read_cut" ps_read_cut 2 S_read_cut) (c_read_number : DFn P w K mg base "read_number" ps_read_number 1 S_read_number) : FnOk P w K mg base (L2N.CX P w) 4 f fd ps__law_word_right (toSp K mg ps__law_word_right.length S__law_word_right) :=
  fnok F sc__law_word_right (fun X e1 e2 e3 e4 e5 h ho => w__law_word_right h ho (c__law_spots.here e1 e2 e3 e4 e5) rfl (c__law_alike.here e1 e2 e3 e4 e5) rfl (c__law_named.here e1 e2 e3 e4 e5) rfl (c__law_cut.here e1 e2 e3 e4 e5) rfl (c__law_first.here e1 e2 e3 e4 e5) rfl (c__law_number.here e1 e2 e3 e4 e5) rfl (c_read_places.here e1 e2 e3 e4 e5) rfl (c_is_name.here e1 e2 e3 e4 e5) rfl (c_read_cut.here e1 e2 e3 e4 e5) rfl (c_read_number.here e1 e2 e3 e4 e5) rfl) p__law_word_right
theorem ok__law_places_right (F : FnP K "_law_places_right" st__law_places_right f fd) (c_read_places : DFn P w K mg base "read_places" ps_read_places 1 S_read_places) (c__law_alike : DFn P w K mg base "_law_alike" ps__law_alike 2 S__law_alike) (c__law_spots : DFn P w K mg base "_law_spots" ps__law_spots 3 S__law_spots) (m_list : mg "list" = none) : FnOk P w K mg base (L2N.CX P w) 4 f fd ps__law_places_right (toSp K mg ps__law_places_right.length S__law_places_right) :=
  fnok F sc__law_places_right (fun X e1 e2 e3 e4 e5 h ho => w__law_places_right h ho (c_read_places.here e1 e2 e3 e4 e5) rfl (c__law_alike.here e1 e2 e3 e4 e5) rfl (c__law_spots.here e1 e2 e3 e4 e5) rfl (none_here e4 m_list)) p__law_places_right
theorem ok__law_near (F : FnP K "_law_near" st__law_near f fd) (c__law_pick : DFn P w K mg base "_law_pick" ps__law_pick 2 S__law_pick) (c__law_word : DFn P w K mg base "_law_word" ps__law_word 4 S__law_word) (c__law_take : DFn P w K mg base "_law_take" ps__law_take 1 S__law_take) (c__law_name : DFn P w K mg base "_law_name" ps__law_name 3 S__law_name) (c__law_digits : DFn P w K mg base "_law_digits" ps__law_digits 3 S__law_digits) (m_len : mg "len" = none) : FnOk P w K mg base (L2N.CX P w) 5 f fd ps__law_near (toSp K mg ps__law_near.length S__law_near) :=
  fnok F sc__law_near (fun X e1 e2 e3 e4 e5 h ho => w__law_near h ho (c__law_pick.here e1 e2 e3 e4 e5) rfl (c__law_word.here e1 e2 e3 e4 e5) rfl (c__law_take.here e1 e2 e3 e4 e5) rfl (c__law_name.here e1 e2 e3 e4 e5) rfl (c__law_digits.here e1 e2 e3 e4 e5) rfl (none_here e4 m_len)) p__law_near
theorem ok__law_words (F : FnP K "_law_words" st__law_words f fd) (c__law_take : DFn P w K mg base "_law_take" ps__law_take 1 S__law_take) (c__law_near : DFn P w K mg base "_law_near" ps__law_near 5 S__law_near) (c__law_pick : DFn P w K mg base "_law_pick" ps__law_pick 2 S__law_pick) (c__law_between : DFn P w K mg base "_law_between" ps__law_between 2 S__law_between) (m_range : mg "range" = none) : FnOk P w K mg base (L2N.CX P w) 6 f fd ps__law_words (toSp K mg ps__law_words.length S__law_words) :=
  fnok F sc__law_words (fun X e1 e2 e3 e4 e5 h ho => w__law_words h ho (c__law_take.here e1 e2 e3 e4 e5) rfl (c__law_near.here e1 e2 e3 e4 e5) rfl (c__law_pick.here e1 e2 e3 e4 e5) rfl (c__law_between.here e1 e2 e3 e4 e5) rfl (none_here e4 m_range)) p__law_words
theorem ok_law (F : FnP K "law" st_law f fd) (c__law_line_right : DFn P w K mg base "_law_line_right" ps__law_line_right 3 S__law_line_right) (c__law_line : DFn P w K mg base "_law_line" ps__law_line 3 S__law_line) (c__law_words : DFn P w K mg base "_law_words" ps__law_words 6 S__law_words) (c__law_places_right : DFn P w K mg base "_law_places_right" ps__law_places_right 4 S__law_places_right) (c_read_places : DFn P w K mg base "read_places" ps_read_places 1 S_read_places) (c__law_alike : DFn P w K mg base "_law_alike" ps__law_alike 2 S__law_alike) (c_place_word : DFn P w K mg base "place_word" ps_place_word 1 S_place_word) (c_read_cut : DFn P w K mg base "read_cut" ps_read_cut 2 S_read_cut) (c_cut_word : DFn P w K mg base "cut_word" ps_cut_word 1 S_cut_word) (c__law_take : DFn P w K mg base "_law_take" ps__law_take 1 S__law_take) (c__law_word_right : DFn P w K mg base "_law_word_right" ps__law_word_right 4 S__law_word_right) (c__law_near : DFn P w K mg base "_law_near" ps__law_near 5 S__law_near) (c__law_store : DFn P w K mg base "_law_store" ps__law_store 1 S__law_store) (m_range : mg "range" = none) (m_str : mg "str" = none) : FnOk P w K mg base (L2N.CX P w) 7 f fd ["script"] (spLaw K) :=
  fnok_law rfl F sc_law (fun X e1 e2 e3 e4 e5 h => ds_asg rfl rfl tg_name (h.call (c__law_store.here e1 e2 e3 e4 e5) rfl (by decide +kernel) (pls_cons pl_name pls_nil) (da_cons pl_name (h.var (i := 0) (by decide +kernel)) da_nil)) (h.tg (by decide +kernel))) (fun X e1 e2 e3 e4 e5 h ho => w_law h ho (c__law_line_right.here e1 e2 e3 e4 e5) rfl (c__law_line.here e1 e2 e3 e4 e5) rfl (c__law_words.here e1 e2 e3 e4 e5) rfl (c__law_places_right.here e1 e2 e3 e4 e5) rfl (c_read_places.here e1 e2 e3 e4 e5) rfl (c__law_alike.here e1 e2 e3 e4 e5) rfl (c_place_word.here e1 e2 e3 e4 e5) rfl (c_read_cut.here e1 e2 e3 e4 e5) rfl (c_cut_word.here e1 e2 e3 e4 e5) rfl (c__law_take.here e1 e2 e3 e4 e5) rfl (c__law_word_right.here e1 e2 e3 e4 e5) rfl (c__law_near.here e1 e2 e3 e4 e5) rfl (none_here e4 m_range) (none_here e4 m_str)) p_law
end
def d_read_number : He.DefD := ⟨("read_number", none), "read_number", "read_number", defArgs st_read_number, defBody st_read_number, defScope st_read_number, [], []⟩
def d_cut_word : He.DefD := ⟨("cut_word", none), "cut_word", "cut_word", defArgs st_cut_word, defBody st_cut_word, defScope st_cut_word, [], []⟩
def d_place_word : He.DefD := ⟨("place_word", none), "place_word", "place_word", defArgs st_place_word, defBody st_place_word, defScope st_place_word, [], []⟩
def d_read_places : He.DefD := ⟨("read_places", none), "read_places", "read_places", defArgs st_read_places, defBody st_read_places, defScope st_read_places, [], []⟩
def d_is_name : He.DefD := ⟨("is_name", none), "is_name", "is_name", defArgs st_is_name, defBody st_is_name, defScope st_is_name, [], []⟩
def d_split_line : He.DefD := ⟨("split_line", none), "split_line", "split_line", defArgs st_split_line, defBody st_split_line, defScope st_split_line, [], []⟩
def d__law_store : He.DefD := ⟨("_law_store", none), "_law_store", "_law_store", defArgs st__law_store, defBody st__law_store, defScope st__law_store, [], []⟩
def d__law_take : He.DefD := ⟨("_law_take", none), "_law_take", "_law_take", defArgs st__law_take, defBody st__law_take, defScope st__law_take, [], []⟩
def d__law_plain : He.DefD := ⟨("_law_plain", none), "_law_plain", "_law_plain", defArgs st__law_plain, defBody st__law_plain, defScope st__law_plain, [], []⟩
def d__law_number : He.DefD := ⟨("_law_number", none), "_law_number", "_law_number", defArgs st__law_number, defBody st__law_number, defScope st__law_number, [], []⟩
def d__law_named : He.DefD := ⟨("_law_named", none), "_law_named", "_law_named", defArgs st__law_named, defBody st__law_named, defScope st__law_named, [], []⟩
def d__law_first : He.DefD := ⟨("_law_first", none), "_law_first", "_law_first", defArgs st__law_first, defBody st__law_first, defScope st__law_first, [], []⟩
def d__law_parted : He.DefD := ⟨("_law_parted", none), "_law_parted", "_law_parted", defArgs st__law_parted, defBody st__law_parted, defScope st__law_parted, [], []⟩
def d_read_cut : He.DefD := ⟨("read_cut", none), "read_cut", "read_cut", defArgs st_read_cut, defBody st_read_cut, defScope st_read_cut, [], []⟩
def d__law_pick : He.DefD := ⟨("_law_pick", none), "_law_pick", "_law_pick", defArgs st__law_pick, defBody st__law_pick, defScope st__law_pick, [], []⟩
def d__law_between : He.DefD := ⟨("_law_between", none), "_law_between", "_law_between", defArgs st__law_between, defBody st__law_between, defScope st__law_between, [], []⟩
def d__law_char : He.DefD := ⟨("_law_char", none), "_law_char", "_law_char", defArgs st__law_char, defBody st__law_char, defScope st__law_char, [], []⟩
def d__law_alike : He.DefD := ⟨("_law_alike", none), "_law_alike", "_law_alike", defArgs st__law_alike, defBody st__law_alike, defScope st__law_alike, [], []⟩
def d__law_cut : He.DefD := ⟨("_law_cut", none), "_law_cut", "_law_cut", defArgs st__law_cut, defBody st__law_cut, defScope st__law_cut, [], []⟩
def d__law_spot : He.DefD := ⟨("_law_spot", none), "_law_spot", "_law_spot", defArgs st__law_spot, defBody st__law_spot, defScope st__law_spot, [], []⟩
def d__law_text : He.DefD := ⟨("_law_text", none), "_law_text", "_law_text", defArgs st__law_text, defBody st__law_text, defScope st__law_text, [], []⟩
def d__law_name : He.DefD := ⟨("_law_name", none), "_law_name", "_law_name", defArgs st__law_name, defBody st__law_name, defScope st__law_name, [], []⟩
def d__law_spots : He.DefD := ⟨("_law_spots", none), "_law_spots", "_law_spots", defArgs st__law_spots, defBody st__law_spots, defScope st__law_spots, [], []⟩
def d__law_digits : He.DefD := ⟨("_law_digits", none), "_law_digits", "_law_digits", defArgs st__law_digits, defBody st__law_digits, defScope st__law_digits, [], []⟩
def d__law_line_right : He.DefD := ⟨("_law_line_right", none), "_law_line_right", "_law_line_right", defArgs st__law_line_right, defBody st__law_line_right, defScope st__law_line_right, [], []⟩
def d__law_line : He.DefD := ⟨("_law_line", none), "_law_line", "_law_line", defArgs st__law_line, defBody st__law_line, defScope st__law_line, [], []⟩
def d__law_word : He.DefD := ⟨("_law_word", none), "_law_word", "_law_word", defArgs st__law_word, defBody st__law_word, defScope st__law_word, [], []⟩
def d__law_word_right : He.DefD := ⟨("_law_word_right", none), "_law_word_right", "_law_word_right", defArgs st__law_word_right, defBody st__law_word_right, defScope st__law_word_right, [], []⟩
def d__law_places_right : He.DefD := ⟨("_law_places_right", none), "_law_places_right", "_law_places_right", defArgs st__law_places_right, defBody st__law_places_right, defScope st__law_places_right, [], []⟩
def d__law_near : He.DefD := ⟨("_law_near", none), "_law_near", "_law_near", defArgs st__law_near, defBody st__law_near, defScope st__law_near, [], []⟩
def d__law_words : He.DefD := ⟨("_law_words", none), "_law_words", "_law_words", defArgs st__law_words, defBody st__law_words, defScope st__law_words, [], []⟩
def d_law : He.DefD := ⟨("law", none), "law", "law", defArgs st_law, defBody st_law, defScope st_law, [], []⟩
def fn : List He.DefD := [d_read_number, d_cut_word, d_place_word, d_read_places, d_is_name, d_split_line, d__law_store, d__law_take, d__law_plain, d__law_number, d__law_named, d__law_first, d__law_parted, d_read_cut, d__law_pick, d__law_between, d__law_char, d__law_alike, d__law_cut, d__law_spot, d__law_text, d__law_name, d__law_spots, d__law_digits, d__law_line_right, d__law_line, d__law_word, d__law_word_right, d__law_places_right, d__law_near, d__law_words, d_law]
def fa : List He.Fa := [.glo "read_number", .glo "cut_word", .glo "place_word", .glo "read_places", .glo "is_name", .glo "split_line", .glo "_law_store", .glo "_law_take", .glo "_law_plain", .glo "_law_number", .glo "_law_named", .glo "_law_first", .glo "_law_parted", .glo "read_cut", .glo "_law_pick", .glo "_law_between", .glo "_law_char", .glo "_law_alike", .glo "_law_cut", .glo "_law_spot", .glo "_law_text", .glo "_law_name", .glo "_law_spots", .glo "_law_digits", .glo "_law_line_right", .glo "_law_line", .glo "_law_word", .glo "_law_word_right", .glo "_law_places_right", .glo "_law_near", .glo "_law_words", .glo "law", .free "int", .free "len", .free "all", .free "str", .free "abs", .free "max", .free "range", .free "tuple", .free "isinstance", .free "list", .free "bool", .free "repr", .str "DIGITS" "0123456789", .str "SMALL_LETTERS" "abcdefghijklmnopqrstuvwxyz"]
abbrev R : PySem.W.OpenRow := PySem.W.OpenLaw.row PySem.Challenge.rw_corneralike_k27_words
abbrev hk : PySem.W.Hook := He.hookD 4 fa fn
def ob (s : PySem.W.SharedT) : He.AlD := He.obsDG 4 fa fn (HandSHeadRun.getT s)
theorem ob_eq (s : PySem.W.SharedT) : ob s = hk.obs s.abs := He.obsDG_eq (HandSHeadRun.getT_eq s)
def names0 : List PySem.Str := ["DIGITS", "SMALL_LETTERS", "read_number", "cut_word", "read_cut", "place_word", "read_places", "is_name", "split_line", "_law_store", "_law_take", "_law_pick", "_law_between", "_law_char", "_law_text", "_law_name", "_law_word", "_law_plain", "_law_alike", "_law_number", "_law_cut", "_law_spot", "_law_named", "_law_first", "_law_spots", "_law_parted", "_law_digits", "_law_near", "_law_word_right", "_law_places_right"]
def names1 : List PySem.Str := ["_law_line_right", "_law_words", "_law_line"]
def names : List PySem.Str := names0 ++ names1
theorem run (w : World) : HandSHeadRun.RunEq R (PySem.W.view R.prog [35]) hk ob 4000 names w := by
  intro os
  kernel_rfl
theorem facts {P : Program} {w : World} {K : PySem.W.Frag} {h : Heap} {mg : Str → Option Value} {f : Addr} (X : K.In h) (G : h.Ns mainGlobals mg) (hfa : mg ("law" : Str) = some (.ref f)) (c : He.SaysD fa fn K) :
    ∃ fd : FuncData, (∀ (s : Shared) (v : Value), BindsTo s fd ⟨[v], []⟩ [("script", v)]) ∧ ∀ base : Heap, K.In base → base.Ns mainGlobals mg → FnOk P w K mg base (fun _ _ _ _ _ _ => False) 7 f fd ["script"] (spLaw K) := by
  obtain ⟨fd_read_number, F_read_number⟩ := c.def_ 0 (d := d_read_number) rfl
  obtain ⟨fd_cut_word, F_cut_word⟩ := c.def_ 1 (d := d_cut_word) rfl
  obtain ⟨fd_place_word, F_place_word⟩ := c.def_ 2 (d := d_place_word) rfl
  obtain ⟨fd_read_places, F_read_places⟩ := c.def_ 3 (d := d_read_places) rfl
  obtain ⟨fd_is_name, F_is_name⟩ := c.def_ 4 (d := d_is_name) rfl
  obtain ⟨fd_split_line, F_split_line⟩ := c.def_ 5 (d := d_split_line) rfl
  obtain ⟨fd__law_store, F__law_store⟩ := c.def_ 6 (d := d__law_store) rfl
  obtain ⟨fd__law_take, F__law_take⟩ := c.def_ 7 (d := d__law_take) rfl
  obtain ⟨fd__law_plain, F__law_plain⟩ := c.def_ 8 (d := d__law_plain) rfl
  obtain ⟨fd__law_number, F__law_number⟩ := c.def_ 9 (d := d__law_number) rfl
  obtain ⟨fd__law_named, F__law_named⟩ := c.def_ 10 (d := d__law_named) rfl
  obtain ⟨fd__law_first, F__law_first⟩ := c.def_ 11 (d := d__law_first) rfl
  obtain ⟨fd__law_parted, F__law_parted⟩ := c.def_ 12 (d := d__law_parted) rfl
  obtain ⟨fd_read_cut, F_read_cut⟩ := c.def_ 13 (d := d_read_cut) rfl
  obtain ⟨fd__law_pick, F__law_pick⟩ := c.def_ 14 (d := d__law_pick) rfl
  obtain ⟨fd__law_between, F__law_between⟩ := c.def_ 15 (d := d__law_between) rfl
  obtain ⟨fd__law_char, F__law_char⟩ := c.def_ 16 (d := d__law_char) rfl
  obtain ⟨fd__law_alike, F__law_alike⟩ := c.def_ 17 (d := d__law_alike) rfl
  obtain ⟨fd__law_cut, F__law_cut⟩ := c.def_ 18 (d := d__law_cut) rfl
  obtain ⟨fd__law_spot, F__law_spot⟩ := c.def_ 19 (d := d__law_spot) rfl
  obtain ⟨fd__law_text, F__law_text⟩ := c.def_ 20 (d := d__law_text) rfl
  obtain ⟨fd__law_name, F__law_name⟩ := c.def_ 21 (d := d__law_name) rfl
  obtain ⟨fd__law_spots, F__law_spots⟩ := c.def_ 22 (d := d__law_spots) rfl
  obtain ⟨fd__law_digits, F__law_digits⟩ := c.def_ 23 (d := d__law_digits) rfl
  obtain ⟨fd__law_line_right, F__law_line_right⟩ := c.def_ 24 (d := d__law_line_right) rfl
  obtain ⟨fd__law_line, F__law_line⟩ := c.def_ 25 (d := d__law_line) rfl
  obtain ⟨fd__law_word, F__law_word⟩ := c.def_ 26 (d := d__law_word) rfl
  obtain ⟨fd__law_word_right, F__law_word_right⟩ := c.def_ 27 (d := d__law_word_right) rfl
  obtain ⟨fd__law_places_right, F__law_places_right⟩ := c.def_ 28 (d := d__law_places_right) rfl
  obtain ⟨fd__law_near, F__law_near⟩ := c.def_ 29 (d := d__law_near) rfl
  obtain ⟨fd__law_words, F__law_words⟩ := c.def_ 30 (d := d__law_words) rfl
  obtain ⟨fd_law, F_law⟩ := c.def_ 31 (d := d_law) rfl
  have m_int : mg "int" = none := He.free_ok X G (c.fact 32 (f := .free "int") rfl)
  have m_len : mg "len" = none := He.free_ok X G (c.fact 33 (f := .free "len") rfl)
  have m_all : mg "all" = none := He.free_ok X G (c.fact 34 (f := .free "all") rfl)
  have m_str : mg "str" = none := He.free_ok X G (c.fact 35 (f := .free "str") rfl)
  have m_abs : mg "abs" = none := He.free_ok X G (c.fact 36 (f := .free "abs") rfl)
  have m_max : mg "max" = none := He.free_ok X G (c.fact 37 (f := .free "max") rfl)
  have m_range : mg "range" = none := He.free_ok X G (c.fact 38 (f := .free "range") rfl)
  have m_tuple : mg "tuple" = none := He.free_ok X G (c.fact 39 (f := .free "tuple") rfl)
  have m_isinstance : mg "isinstance" = none := He.free_ok X G (c.fact 40 (f := .free "isinstance") rfl)
  have m_list : mg "list" = none := He.free_ok X G (c.fact 41 (f := .free "list") rfl)
  have m_bool : mg "bool" = none := He.free_ok X G (c.fact 42 (f := .free "bool") rfl)
  have m_repr : mg "repr" = none := He.free_ok X G (c.fact 43 (f := .free "repr") rfl)
  have g_DIGITS : ∃ t, mg "DIGITS" = some (.str "0123456789" t) := He.str_ok X G (c.fact 44 (f := .str "DIGITS" "0123456789") rfl)
  have g_SMALL_LETTERS : ∃ t, mg "SMALL_LETTERS" = some (.str "abcdefghijklmnopqrstuvwxyz" t) := He.str_ok X G (c.fact 45 (f := .str "SMALL_LETTERS" "abcdefghijklmnopqrstuvwxyz") rfl)
  have e := hfa.symm.trans (He.glo_ok X G (c.fact 31 (f := .glo "law") rfl))
  cases e
  have b := FunD.bindsA (ps := ["script"]) F_law fun _ _ _ _ _ _ us hl => match us, hl with | [_], _ => rfl
  refine ⟨fd_law, fun s v => b s [v] rfl, fun base _ _ => ?_⟩
  have D_read_number : DFn P w K mg base "read_number" ps_read_number 1 S_read_number := ⟨_, _, He.glo_ok X G (c.fact 0 (f := .glo "read_number") rfl), F_read_number.kp, FunD.bindsN F_read_number fun _ _ _ _ _ _ us hl => match us, hl with | [_], _ => rfl, ok_read_number F_read_number m_int m_len m_all g_DIGITS⟩
  have D_cut_word : DFn P w K mg base "cut_word" ps_cut_word 1 S_cut_word := ⟨_, _, He.glo_ok X G (c.fact 1 (f := .glo "cut_word") rfl), F_cut_word.kp, FunD.bindsN F_cut_word fun _ _ _ _ _ _ us hl => match us, hl with | [_], _ => rfl, ok_cut_word F_cut_word⟩
  have D_place_word : DFn P w K mg base "place_word" ps_place_word 1 S_place_word := ⟨_, _, He.glo_ok X G (c.fact 2 (f := .glo "place_word") rfl), F_place_word.kp, FunD.bindsN F_place_word fun _ _ _ _ _ _ us hl => match us, hl with | [_], _ => rfl, ok_place_word F_place_word m_str⟩
  have D_read_places : DFn P w K mg base "read_places" ps_read_places 1 S_read_places := ⟨_, _, He.glo_ok X G (c.fact 3 (f := .glo "read_places") rfl), F_read_places.kp, FunD.bindsN F_read_places fun _ _ _ _ _ _ us hl => match us, hl with | [_], _ => rfl, ok_read_places F_read_places m_len m_int g_DIGITS⟩
  have D_is_name : DFn P w K mg base "is_name" ps_is_name 1 S_is_name := ⟨_, _, He.glo_ok X G (c.fact 4 (f := .glo "is_name") rfl), F_is_name.kp, FunD.bindsN F_is_name fun _ _ _ _ _ _ us hl => match us, hl with | [_], _ => rfl, ok_is_name F_is_name m_all m_len g_SMALL_LETTERS⟩
  have D_split_line : DFn P w K mg base "split_line" ps_split_line 1 S_split_line := ⟨_, _, He.glo_ok X G (c.fact 5 (f := .glo "split_line") rfl), F_split_line.kp, FunD.bindsN F_split_line fun _ _ _ _ _ _ us hl => match us, hl with | [_], _ => rfl, ok_split_line F_split_line⟩
  have D__law_store : DFn P w K mg base "_law_store" ps__law_store 1 S__law_store := ⟨_, _, He.glo_ok X G (c.fact 6 (f := .glo "_law_store") rfl), F__law_store.kp, FunD.bindsN F__law_store fun _ _ _ _ _ _ us hl => match us, hl with | [_], _ => rfl, ok__law_store F__law_store m_len m_abs m_int⟩
  have D__law_take : DFn P w K mg base "_law_take" ps__law_take 1 S__law_take := ⟨_, _, He.glo_ok X G (c.fact 7 (f := .glo "_law_take") rfl), F__law_take.kp, FunD.bindsN F__law_take fun _ _ _ _ _ _ us hl => match us, hl with | [_, _], _ => rfl, ok__law_take F__law_take m_int m_max m_len⟩
  have D__law_plain : DFn P w K mg base "_law_plain" ps__law_plain 1 S__law_plain := ⟨_, _, He.glo_ok X G (c.fact 8 (f := .glo "_law_plain") rfl), F__law_plain.kp, FunD.bindsN F__law_plain fun _ _ _ _ _ _ us hl => match us, hl with | [_], _ => rfl, ok__law_plain F__law_plain m_range m_tuple m_isinstance m_list m_len m_int m_bool m_repr m_str⟩
  have D__law_number : DFn P w K mg base "_law_number" ps__law_number 1 S__law_number := ⟨_, _, He.glo_ok X G (c.fact 9 (f := .glo "_law_number") rfl), F__law_number.kp, FunD.bindsN F__law_number fun _ _ _ _ _ _ us hl => match us, hl with | [_], _ => rfl, ok__law_number F__law_number m_len⟩
  have D__law_named : DFn P w K mg base "_law_named" ps__law_named 1 S__law_named := ⟨_, _, He.glo_ok X G (c.fact 10 (f := .glo "_law_named") rfl), F__law_named.kp, FunD.bindsN F__law_named fun _ _ _ _ _ _ us hl => match us, hl with | [_], _ => rfl, ok__law_named F__law_named m_len⟩
  have D__law_first : DFn P w K mg base "_law_first" ps__law_first 1 S__law_first := ⟨_, _, He.glo_ok X G (c.fact 11 (f := .glo "_law_first") rfl), F__law_first.kp, FunD.bindsN F__law_first fun _ _ _ _ _ _ us hl => match us, hl with | [_], _ => rfl, ok__law_first F__law_first⟩
  have D__law_parted : DFn P w K mg base "_law_parted" ps__law_parted 1 S__law_parted := ⟨_, _, He.glo_ok X G (c.fact 12 (f := .glo "_law_parted") rfl), F__law_parted.kp, FunD.bindsN F__law_parted fun _ _ _ _ _ _ us hl => match us, hl with | [_], _ => rfl, ok__law_parted F__law_parted m_len⟩
  have D_read_cut : DFn P w K mg base "read_cut" ps_read_cut 2 S_read_cut := ⟨_, _, He.glo_ok X G (c.fact 13 (f := .glo "read_cut") rfl), F_read_cut.kp, FunD.bindsN F_read_cut fun _ _ _ _ _ _ us hl => match us, hl with | [_], _ => rfl, ok_read_cut F_read_cut D_read_number⟩
  have D__law_pick : DFn P w K mg base "_law_pick" ps__law_pick 2 S__law_pick := ⟨_, _, He.glo_ok X G (c.fact 14 (f := .glo "_law_pick") rfl), F__law_pick.kp, FunD.bindsN F__law_pick fun _ _ _ _ _ _ us hl => match us, hl with | [_, _], _ => rfl, ok__law_pick F__law_pick D__law_take m_len⟩
  have D__law_between : DFn P w K mg base "_law_between" ps__law_between 2 S__law_between := ⟨_, _, He.glo_ok X G (c.fact 15 (f := .glo "_law_between") rfl), F__law_between.kp, FunD.bindsN F__law_between fun _ _ _ _ _ _ us hl => match us, hl with | [_, _, _], _ => rfl, ok__law_between F__law_between D__law_take⟩
  have D__law_char : DFn P w K mg base "_law_char" ps__law_char 2 S__law_char := ⟨_, _, He.glo_ok X G (c.fact 16 (f := .glo "_law_char") rfl), F__law_char.kp, FunD.bindsN F__law_char fun _ _ _ _ _ _ us hl => match us, hl with | [_], _ => rfl, ok__law_char F__law_char D__law_take m_len⟩
  have D__law_alike : DFn P w K mg base "_law_alike" ps__law_alike 2 S__law_alike := ⟨_, _, He.glo_ok X G (c.fact 17 (f := .glo "_law_alike") rfl), F__law_alike.kp, FunD.bindsN F__law_alike fun _ _ _ _ _ _ us hl => match us, hl with | [_, _], _ => rfl, ok__law_alike F__law_alike D__law_plain⟩
  have D__law_cut : DFn P w K mg base "_law_cut" ps__law_cut 2 S__law_cut := ⟨_, _, He.glo_ok X G (c.fact 18 (f := .glo "_law_cut") rfl), F__law_cut.kp, FunD.bindsN F__law_cut fun _ _ _ _ _ _ us hl => match us, hl with | [_], _ => rfl, ok__law_cut F__law_cut D__law_number⟩
  have D__law_spot : DFn P w K mg base "_law_spot" ps__law_spot 2 S__law_spot := ⟨_, _, He.glo_ok X G (c.fact 19 (f := .glo "_law_spot") rfl), F__law_spot.kp, FunD.bindsN F__law_spot fun _ _ _ _ _ _ us hl => match us, hl with | [_], _ => rfl, ok__law_spot F__law_spot D__law_number⟩
  have D__law_text : DFn P w K mg base "_law_text" ps__law_text 3 S__law_text := ⟨_, _, He.glo_ok X G (c.fact 20 (f := .glo "_law_text") rfl), F__law_text.kp, FunD.bindsN F__law_text fun _ _ _ _ _ _ us hl => match us, hl with | [_, _], _ => rfl, ok__law_text F__law_text D__law_between D__law_char m_range⟩
  have D__law_name : DFn P w K mg base "_law_name" ps__law_name 3 S__law_name := ⟨_, _, He.glo_ok X G (c.fact 21 (f := .glo "_law_name") rfl), F__law_name.kp, FunD.bindsN F__law_name fun _ _ _ _ _ _ us hl => match us, hl with | [_], _ => rfl, ok__law_name F__law_name D__law_between D__law_take m_range⟩
  have D__law_spots : DFn P w K mg base "_law_spots" ps__law_spots 3 S__law_spots := ⟨_, _, He.glo_ok X G (c.fact 22 (f := .glo "_law_spots") rfl), F__law_spots.kp, FunD.bindsN F__law_spots fun _ _ _ _ _ _ us hl => match us, hl with | [_], _ => rfl, ok__law_spots F__law_spots D__law_spot⟩
  have D__law_digits : DFn P w K mg base "_law_digits" ps__law_digits 3 S__law_digits := ⟨_, _, He.glo_ok X G (c.fact 23 (f := .glo "_law_digits") rfl), F__law_digits.kp, FunD.bindsN F__law_digits fun _ _ _ _ _ _ us hl => match us, hl with | [_], _ => rfl, ok__law_digits F__law_digits D__law_between D__law_char D__law_take m_len m_range⟩
  have D__law_line_right : DFn P w K mg base "_law_line_right" ps__law_line_right 3 S__law_line_right := ⟨_, _, He.glo_ok X G (c.fact 24 (f := .glo "_law_line_right") rfl), F__law_line_right.kp, FunD.bindsN F__law_line_right fun _ _ _ _ _ _ us hl => match us, hl with | [_], _ => rfl, ok__law_line_right F__law_line_right D_split_line D__law_alike D__law_parted⟩
  have D__law_line : DFn P w K mg base "_law_line" ps__law_line 3 S__law_line := ⟨_, _, He.glo_ok X G (c.fact 25 (f := .glo "_law_line") rfl), F__law_line.kp, FunD.bindsN F__law_line fun _ _ _ _ _ _ us hl => match us, hl with | [_], _ => rfl, ok__law_line F__law_line D__law_take D__law_char D__law_between m_range⟩
  have D__law_word : DFn P w K mg base "_law_word" ps__law_word 4 S__law_word := ⟨_, _, He.glo_ok X G (c.fact 26 (f := .glo "_law_word") rfl), F__law_word.kp, FunD.bindsN F__law_word fun _ _ _ _ _ _ us hl => match us, hl with | [_], _ => rfl, ok__law_word F__law_word D__law_pick D__law_take D__law_text⟩
  have D__law_word_right : DFn P w K mg base "_law_word_right" ps__law_word_right 4 S__law_word_right := ⟨_, _, He.glo_ok X G (c.fact 27 (f := .glo "_law_word_right") rfl), F__law_word_right.kp, FunD.bindsN F__law_word_right fun _ _ _ _ _ _ us hl => match us, hl with | [_], _ => rfl, ok__law_word_right F__law_word_right D__law_spots D__law_alike D__law_named D__law_cut D__law_first D__law_number D_read_places D_is_name D_read_cut D_read_number⟩
  have D__law_places_right : DFn P w K mg base "_law_places_right" ps__law_places_right 4 S__law_places_right := ⟨_, _, He.glo_ok X G (c.fact 28 (f := .glo "_law_places_right") rfl), F__law_places_right.kp, FunD.bindsN F__law_places_right fun _ _ _ _ _ _ us hl => match us, hl with | [_], _ => rfl, ok__law_places_right F__law_places_right D_read_places D__law_alike D__law_spots m_list⟩
  have D__law_near : DFn P w K mg base "_law_near" ps__law_near 5 S__law_near := ⟨_, _, He.glo_ok X G (c.fact 29 (f := .glo "_law_near") rfl), F__law_near.kp, FunD.bindsN F__law_near fun _ _ _ _ _ _ us hl => match us, hl with | [_], _ => rfl, ok__law_near F__law_near D__law_pick D__law_word D__law_take D__law_name D__law_digits m_len⟩
  have D__law_words : DFn P w K mg base "_law_words" ps__law_words 6 S__law_words := ⟨_, _, He.glo_ok X G (c.fact 30 (f := .glo "_law_words") rfl), F__law_words.kp, FunD.bindsN F__law_words fun _ _ _ _ _ _ us hl => match us, hl with | [_], _ => rfl, ok__law_words F__law_words D__law_take D__law_near D__law_pick D__law_between m_range⟩
  exact FnOk.quiet (ok_law F_law D__law_line_right D__law_line D__law_words D__law_places_right D_read_places D__law_alike D_place_word D_read_cut D_cut_word D__law_take D__law_word_right D__law_near D__law_store m_range m_str) fun vs H Q E h => h
end Lk27
open PySem PySem.W
open PySem.Calls PyProof.Rows
theorem PySem.Challenge.cw_corneralike_k27_words_holds : PySem.Challenge.rw_corneralike_k27_words.Holds := by
  w_on; o_law
  refine HandSHeadRun.head_any (r := OpenLaw.row PySem.Challenge.rw_corneralike_k27_words) (q := view (OpenLaw.row PySem.Challenge.rw_corneralike_k27_words).prog [35]) (H := Lk27.hk) (ob := Lk27.ob) (M := 4000) (loose := Lk27.names) (d := HandSHeadRun.topDef (OpenLaw.row PySem.Challenge.rw_corneralike_k27_words).prog 35) (kwd := []) Lk27.ob_eq
    (by kernel_rfl) (fun s => by kernel_rfl) Lk27.run (by kernel_rfl) (by kernel_rfl) (by kernel_rfl) (by rfl) (by first | assumption | decide +kernel) (by decide +kernel) ⟨rfl, rfl, rfl, rfl, rfl, by decide +kernel⟩ ?hw ?hc
  case hw => w_witness2
  case hc =>
    refine L2.walk_ofE (l := PySem.Challenge.rw_corneralike_k27_words) (n := 63) (k := 7) (x := "script") (CX := fun _ _ _ _ _ _ => False) rfl (by decide) (by kernel_rfl) ⟨rfl, by decide, by decide⟩ ?F (fun _ _ _ _ z => z)
    intro w mg fa h Y G hmg0
    obtain ⟨K, KX, c⟩ := Y
    have hmg : mg ("law" : PySem.Str) = some (.ref fa) := by
      have e : (HandSHeadRun.topDef (OpenLaw.row PySem.Challenge.rw_corneralike_k27_words).prog 35).name = ("law" : PySem.Str) := by kernel_rfl
      rw [← e]
      exact hmg0
    obtain ⟨fd, hb, hF⟩ := Lk27.facts (P := (PySem.Challenge.rw_corneralike_k27_words).prog) (w := w) KX G hmg c
    exact ⟨K, fd, DL.spLaw K, KX, hb, fun H a ns hl _ hS => ⟨a, ns, rfl, hl, hS, fun _ => rfl⟩, hF⟩
