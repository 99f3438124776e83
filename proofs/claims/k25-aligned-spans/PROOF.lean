import PyProof.Rows.All
import Wide.All
import OpenK.AllK
import Wide.FinOn
import KE.KStateDown
import HandS.ForMost
import HandS.ExcCtx
import HandS.Flow
import HandS.WideBits
import HandS.HotCalls
import KE.KExcIs
import HandS.Text
import HandS.Style
import HandS.TupAny
import HandS.IsInst
import HandS.RaiseMore
import HandS.NoneIn
import HandS.Defaults
import HandS.FStr
import HandS.Replace
import HandS.Small
import HandS.ExcInit
import HandS.HeadHook1
import HandS.ExcField
import HandS.HeadHook2
import HandS.Codes
import HandS.Head0
import HandS.Head1
import HandS.Head2
import HandS.HeadEnd
import HandS.Words
import PySem.Challenge.RW_corneralike_k25_aligned_spans
set_option Elab.async false
set_option linter.all false
set_option maxRecDepth 100000
set_option maxHeartbeats 0
/-! DL1: plain data, owned trees, and how they lie in the abstract heap. -/
namespace DL
open PySem PySem.Spec
open PyProof.Rows L2

/-- plain data: what never changes again -/
inductive D where
  | non | bl (b : Bool) | int (i : Int) | str (s : List Nat) | ty (n : String) | glo (x : String)
  | lst (xs : List D) | klst (xs : List D) | tup (xs : List D) | cel (xs : List D)
  | ins (c : String) (fs : List (String × D))
  | dct (kvs : List (Key × D))
/-- a value with its owned parts: ol, ot, oi, od are objects that nobody else holds; sto the law's store; at_ what slot i holds -/
inductive W where
  | d (x : D)
  | ol (ws : List W) | ot (ws : List W)
  | oi (c : String) (fs : List (String × W))
  | od (kvs : List (Key × W))
  | sto | exn (c : String) (fs : List (String × D)) | at_ (i : Nat) | hole
  | oL (ws : List W)

mutual
def fz : W → D
  | .d x => x
  | .ol ws => .lst (fzs ws)
  | .ot ws => .tup (fzs ws)
  | .oi c fs => .ins c (fzf fs)
  | .od kvs => .dct (fzk kvs)
  | .sto => .non
  | .exn _ _ => .non
  | .at_ _ => .non
  | .hole => .non
  | .oL ws => .lst (fzs ws)
def fzs : List W → List D
  | [] => []
  | w :: ws => fz w :: fzs ws
def fzf : List (String × W) → List (String × D)
  | [] => []
  | (n, w) :: ws => (n, fz w) :: fzf ws
def fzk : List (Key × W) → List (Key × D)
  | [] => []
  | (n, w) :: ws => (n, fz w) :: fzk ws
end

/-- a caught error: its address, its class, its attributes, its own dict -/
structure ExI where
  a : Addr
  c : String
  fs : List (String × D)
  d : Option Addr
/-- where one stands: the written part, the module's names, the entry's heap and frozen part, the store's address -/
structure Z where
  K : PySem.W.Frag
  mg : Str → Option Value
  H0 : Hp
  G0 : Hp
  s : Option Addr
  op : Bool := false
  ex : Option ExI := none
  sv : Option V := none
  pin : Option Addr := none
  lx : Bool := false

section
variable (z : Z)
mutual
def Rep (G : Hp) : D → V → Prop
  | .non, v => v = .non
  | .bl b, v => v = .bl b
  | .int i, v => v = .int i
  | .str s, v => v = .str ⟨s.toArray⟩
  | .ty n, v => v = .ty n
  | .glo x, v => ∃ a, z.mg (Str.ofString x) = some (.ref a) ∧ v = .ref a
  | .lst xs, v => ∃ a vs, v = .ref a ∧ G a = some (.lst vs) ∧ Reps G xs vs
  | .klst xs, v => ∃ a vs, v = .ref a ∧ SqL z.K G a vs ∧ Reps G xs vs
  | .tup xs, v => ∃ a vs, v = .ref a ∧ SqT z.K G a vs ∧ Reps G xs vs
  | .cel xs, v => z.sv = some v ∧ ∃ a vs, v = .ref a ∧ G a = some (.lst vs) ∧ Reps G xs vs
  | .ins c fs, v => ∃ a C dx vs, v = .ref a ∧ z.mg (Str.ofString c) = some (.ref C) ∧ G a = some (.ins C dx vs) ∧ G dx = some (.own a) ∧ RepF G fs vs
  | .dct kvs, v => ∃ a vs, v = .ref a ∧ G a = some (.dK vs) ∧ RepK G kvs vs
def Reps (G : Hp) : List D → List V → Prop
  | [], vs => vs = []
  | d :: ds, vs => ∃ v vs', vs = v :: vs' ∧ Rep G d v ∧ Reps G ds vs'
def RepF (G : Hp) : List (String × D) → List (Str × V) → Prop
  | [], vs => vs = []
  | (n, d) :: ds, vs => ∃ v vs', vs = (Str.ofString n, v) :: vs' ∧ Rep G d v ∧ RepF G ds vs'
def RepK (G : Hp) : List (Key × D) → List (Key × V) → Prop
  | [], vs => vs = []
  | (n, d) :: ds, vs => ∃ v vs', vs = (n, v) :: vs' ∧ Rep G d v ∧ RepK G ds vs'
end
mutual
def RepW (G H : Hp) : W → V → List Addr → Prop
  | .d x, v, as => as = [] ∧ Rep z G x v
  | .ol ws, v, as => ∃ a vs as', v = .ref a ∧ as = a :: as' ∧ H a = some (.lst vs) ∧ RepWs G H ws vs as'
  | .ot ws, v, as => ∃ a vs as', v = .ref a ∧ as = a :: as' ∧ H a = some (.tup vs) ∧ RepWs G H ws vs as'
  | .oi c fs, v, as => ∃ a C dx vs as', v = .ref a ∧ as = a :: dx :: as' ∧ z.mg (Str.ofString c) = some (.ref C) ∧ H a = some (.ins C dx vs) ∧ H dx = some (.own a) ∧ RepWf G H fs vs as'
  | .od kvs, v, as => ∃ a vs as', v = .ref a ∧ as = a :: as' ∧ H a = some (.dK vs) ∧ RepWk G H kvs vs as'
  | .sto, v, as => as = [] ∧ ∃ s, z.s = some s ∧ v = .ref s
  | .exn c fs, v, as => as = [] ∧ ∃ i, z.ex = some i ∧ v = .ref i.a ∧ i.c = c ∧ i.fs = fs ∧ z.lx = true
  | .at_ _, _, _ => False
  | .hole, _, _ => False
  | .oL ws, v, as => ∃ a vs as', z.pin = some a ∧ v = .ref a ∧ as = a :: as' ∧ H a = some (.lst vs) ∧ RepWs G H ws vs as'
def RepWs (G H : Hp) : List W → List V → List Addr → Prop
  | [], vs, as => vs = [] ∧ as = []
  | w :: ws, vs, as => ∃ v vs' a1 a2, vs = v :: vs' ∧ as = a1 ++ a2 ∧ RepW G H w v a1 ∧ RepWs G H ws vs' a2
def RepWf (G H : Hp) : List (String × W) → List (Str × V) → List Addr → Prop
  | [], vs, as => vs = [] ∧ as = []
  | (n, w) :: ws, vs, as => ∃ v vs' a1 a2, vs = (Str.ofString n, v) :: vs' ∧ as = a1 ++ a2 ∧ RepW G H w v a1 ∧ RepWf G H ws vs' a2
def RepWk (G H : Hp) : List (Key × W) → List (Key × V) → List Addr → Prop
  | [], vs, as => vs = [] ∧ as = []
  | (n, w) :: ws, vs, as => ∃ v vs' a1 a2, vs = (n, v) :: vs' ∧ as = a1 ++ a2 ∧ RepW G H w v a1 ∧ RepWk G H ws vs' a2
end
end

theorem Same.tup {K : PySem.W.Frag} {H H' : Hp} {a : Addr} {xs : List V} (e : Same H H') (h : SqT K H a xs) : SqT K H' a xs := by
  rcases h with (h | ⟨o, h⟩) | h
  · exact .inl (.inl (e _ _ h))
  · exact .inl (.inr ⟨o, e _ _ h⟩)
  · exact .inr h

section
variable {z : Z} {G G' H H' : Hp}
mutual
theorem Rep.mono (h : Same G G') : ∀ {d : D} {v : V}, Rep z G d v → Rep z G' d v
  | .non, _, r => r
  | .bl _, _, r => r
  | .int _, _, r => r
  | .str _, _, r => r
  | .ty _, _, r => r
  | .glo _, _, r => r
  | .lst _, _, ⟨a, vs, e, s, r⟩ => ⟨a, vs, e, h _ _ s, Reps.mono h r⟩
  | .klst _, _, ⟨a, vs, e, s, r⟩ => ⟨a, vs, e, h.seq s, Reps.mono h r⟩
  | .tup _, _, ⟨a, vs, e, s, r⟩ => ⟨a, vs, e, Same.tup h s, Reps.mono h r⟩
  | .cel _, _, ⟨p, a, vs, e, s, r⟩ => ⟨p, a, vs, e, h _ _ s, Reps.mono h r⟩
  | .ins _ _, _, ⟨a, C, dx, vs, e, m, s, s2, r⟩ => ⟨a, C, dx, vs, e, m, h _ _ s, h _ _ s2, RepF.mono h r⟩
  | .dct _, _, ⟨a, vs, e, s, r⟩ => ⟨a, vs, e, h _ _ s, RepK.mono h r⟩
theorem Reps.mono (h : Same G G') : ∀ {d : List D} {v : List V}, Reps z G d v → Reps z G' d v
  | [], _, r => r
  | _ :: _, _, ⟨v, vs, e, r, q⟩ => ⟨v, vs, e, Rep.mono h r, Reps.mono h q⟩
theorem RepF.mono (h : Same G G') : ∀ {d : List (String × D)} {v : List (Str × V)}, RepF z G d v → RepF z G' d v
  | [], _, r => r
  | (_, _) :: _, _, ⟨v, vs, e, r, q⟩ => ⟨v, vs, e, Rep.mono h r, RepF.mono h q⟩
theorem RepK.mono (h : Same G G') : ∀ {d : List (Key × D)} {v : List (Key × V)}, RepK z G d v → RepK z G' d v
  | [], _, r => r
  | (_, _) :: _, _, ⟨v, vs, e, r, q⟩ => ⟨v, vs, e, Rep.mono h r, RepK.mono h q⟩
end
/-- the same but for Z's heaps -/
structure Z.like (z z' : Z) : Prop where
  k : z.K = z'.K
  m : z.mg = z'.mg
  v : ∀ v, z.sv = some v → z'.sv = some v
theorem Z.like_refl {z : Z} : z.like z := ⟨rfl, rfl, fun _ h => h⟩
/-- the store and the caught error of one are those of the other -/
def Z.sub (z z' : Z) : Prop := (∀ s, z.s = some s → z'.s = some s) ∧ (∀ i, z.ex = some i → z'.ex = some i) ∧ (∀ s, z.pin = some s → z'.pin = some s) ∧ (z.lx = true → z'.lx = true)
theorem Z.sub_refl {z : Z} : z.sub z := ⟨fun _ h => h, fun _ h => h, fun _ h => h, fun h => h⟩
mutual
theorem Rep.like {z' : Z} (e : z.like z') : ∀ {d : D} {v : V}, Rep z G d v → Rep z' G d v
  | .non, _, r => r
  | .bl _, _, r => r
  | .int _, _, r => r
  | .str _, _, r => r
  | .ty _, _, r => r
  | .glo _, _, ⟨a, m, r⟩ => ⟨a, by rw [← e.m]; exact m, r⟩
  | .lst _, _, ⟨a, vs, q, s, r⟩ => ⟨a, vs, q, s, Reps.like e r⟩
  | .klst _, _, ⟨a, vs, q, s, r⟩ => ⟨a, vs, q, by rw [← e.k]; exact s, Reps.like e r⟩
  | .cel _, _, ⟨p, a, vs, q, s, r⟩ => ⟨e.v _ p, a, vs, q, s, Reps.like e r⟩
  | .tup _, _, ⟨a, vs, q, s, r⟩ => ⟨a, vs, q, by rw [← e.k]; exact s, Reps.like e r⟩
  | .ins _ _, _, ⟨a, C, dx, vs, q, m, s, s2, r⟩ => ⟨a, C, dx, vs, q, by rw [← e.m]; exact m, s, s2, RepF.like e r⟩
  | .dct _, _, ⟨a, vs, q, s, r⟩ => ⟨a, vs, q, s, RepK.like e r⟩
theorem Reps.like {z' : Z} (e : z.like z') : ∀ {d : List D} {v : List V}, Reps z G d v → Reps z' G d v
  | [], _, r => r
  | _ :: _, _, ⟨v, vs, q, r, q2⟩ => ⟨v, vs, q, Rep.like e r, Reps.like e q2⟩
theorem RepF.like {z' : Z} (e : z.like z') : ∀ {d : List (String × D)} {v : List (Str × V)}, RepF z G d v → RepF z' G d v
  | [], _, r => r
  | (_, _) :: _, _, ⟨v, vs, q, r, q2⟩ => ⟨v, vs, q, Rep.like e r, RepF.like e q2⟩
theorem RepK.like {z' : Z} (e : z.like z') : ∀ {d : List (Key × D)} {v : List (Key × V)}, RepK z G d v → RepK z' G d v
  | [], _, r => r
  | (_, _) :: _, _, ⟨v, vs, q, r, q2⟩ => ⟨v, vs, q, Rep.like e r, RepK.like e q2⟩
end
/-- owned objects as they stand, the frozen part grown -/
def Ag (as : List Addr) (H H' : Hp) : Prop := ∀ a ∈ as, H' a = H a
theorem Ag.l {as bs : List Addr} (h : Ag (as ++ bs) H H') : Ag as H H' := fun a m => h a (List.mem_append_left _ m)
theorem Ag.r {as bs : List Addr} (h : Ag (as ++ bs) H H') : Ag bs H H' := fun a m => h a (List.mem_append_right _ m)
theorem Ag.hd {a : Addr} {as : List Addr} (h : Ag (a :: as) H H') : H' a = H a := h a List.mem_cons_self
theorem Ag.tl {a : Addr} {as : List Addr} (h : Ag (a :: as) H H') : Ag as H H' := fun b m => h b (List.mem_cons_of_mem _ m)
mutual
theorem RepW.move {z' : Z} (e : z.like z') (es : z.sub z') (hG : Same G G') : ∀ {w : W} {v : V} {as : List Addr}, RepW z G H w v as → Ag as H H' → RepW z' G' H' w v as
  | .d _, _, _, ⟨q, r⟩, _ => ⟨q, (Rep.mono hG r).like e⟩
  | .ol _, _, _, ⟨a, vs, as', q, q2, h, r⟩, g => by subst q2; exact ⟨a, vs, as', q, rfl, g.hd.trans h, RepWs.move e es hG r g.tl⟩
  | .ot _, _, _, ⟨a, vs, as', q, q2, h, r⟩, g => by subst q2; exact ⟨a, vs, as', q, rfl, g.hd.trans h, RepWs.move e es hG r g.tl⟩
  | .oi _ _, _, _, ⟨a, C, dx, vs, as', q, q2, m, h, h2, r⟩, g => by
    subst q2
    exact ⟨a, C, dx, vs, as', q, rfl, by rw [← e.m]; exact m, g.hd.trans h, g.tl.hd.trans h2, RepWf.move e es hG r g.tl.tl⟩
  | .od _, _, _, ⟨a, vs, as', q, q2, h, r⟩, g => by subst q2; exact ⟨a, vs, as', q, rfl, g.hd.trans h, RepWk.move e es hG r g.tl⟩
  | .sto, _, _, ⟨q, s, h, r⟩, _ => ⟨q, s, es.1 s h, r⟩
  | .exn _ _, _, _, ⟨q, i, h, r, r2, r3, r4⟩, _ => ⟨q, i, es.2.1 i h, r, r2, r3, es.2.2.2 r4⟩
  | .oL _, _, _, ⟨a, vs, as', pn, q, q2, h, r⟩, g => by subst q2; exact ⟨a, vs, as', es.2.2.1 _ pn, q, rfl, g.hd.trans h, RepWs.move e es hG r g.tl⟩
theorem RepWs.move {z' : Z} (e : z.like z') (es : z.sub z') (hG : Same G G') : ∀ {w : List W} {v : List V} {as : List Addr}, RepWs z G H w v as → Ag as H H' → RepWs z' G' H' w v as
  | [], _, _, r, _ => r
  | _ :: _, _, _, ⟨v, vs, a1, a2, q, q2, r, r2⟩, g => by subst q2; exact ⟨v, vs, a1, a2, q, rfl, RepW.move e es hG r g.l, RepWs.move e es hG r2 g.r⟩
theorem RepWf.move {z' : Z} (e : z.like z') (es : z.sub z') (hG : Same G G') : ∀ {w : List (String × W)} {v : List (Str × V)} {as : List Addr}, RepWf z G H w v as → Ag as H H' → RepWf z' G' H' w v as
  | [], _, _, r, _ => r
  | (_, _) :: _, _, _, ⟨v, vs, a1, a2, q, q2, r, r2⟩, g => by subst q2; exact ⟨v, vs, a1, a2, q, rfl, RepW.move e es hG r g.l, RepWf.move e es hG r2 g.r⟩
theorem RepWk.move {z' : Z} (e : z.like z') (es : z.sub z') (hG : Same G G') : ∀ {w : List (Key × W)} {v : List (Key × V)} {as : List Addr}, RepWk z G H w v as → Ag as H H' → RepWk z' G' H' w v as
  | [], _, _, r, _ => r
  | (_, _) :: _, _, _, ⟨v, vs, a1, a2, q, q2, r, r2⟩, g => by subst q2; exact ⟨v, vs, a1, a2, q, rfl, RepW.move e es hG r g.l, RepWk.move e es hG r2 g.r⟩
end
/-! no part of a tree is the store -/
mutual
def nosto : W → Bool
  | .d _ => true
  | .ol ws => nostos ws
  | .ot ws => nostos ws
  | .oi _ fs => nostof fs
  | .od kvs => nostok kvs
  | .sto => false
  | .exn _ _ => false
  | .at_ _ => false
  | .hole => false
  | .oL _ => false
def nostos : List W → Bool
  | [] => true
  | w :: ws => nosto w && nostos ws
def nostof : List (String × W) → Bool
  | [] => true
  | (_, w) :: ws => nosto w && nostof ws
def nostok : List (Key × W) → Bool
  | [] => true
  | (_, w) :: ws => nosto w && nostok ws
end
theorem band {a b : Bool} (h : (a && b) = true) : a = true ∧ b = true := Bool.and_eq_true_iff.mp h
/-! an owned tree is frozen -/
mutual
theorem RepW.fz (hG : Same G G') : ∀ {w : W} {v : V} {as : List Addr}, nosto w = true → RepW z G H w v as → Ag as H G' → Rep z G' (DL.fz w) v
  | .d _, _, _, _, ⟨_, r⟩, _ => Rep.mono hG r
  | .ol _, _, _, n, ⟨a, vs, as', q, q2, h, r⟩, g => by subst q2; exact ⟨a, vs, q, g.hd.trans h, RepWs.fz hG n r g.tl⟩
  | .ot _, _, _, n, ⟨a, vs, as', q, q2, h, r⟩, g => by subst q2; exact ⟨a, vs, q, .inl (.inl (g.hd.trans h)), RepWs.fz hG n r g.tl⟩
  | .oi _ _, _, _, n, ⟨a, C, dx, vs, as', q, q2, m, h, h2, r⟩, g => by subst q2; exact ⟨a, C, dx, vs, q, m, g.hd.trans h, g.tl.hd.trans h2, RepWf.fz hG n r g.tl.tl⟩
  | .od _, _, _, n, ⟨a, vs, as', q, q2, h, r⟩, g => by subst q2; exact ⟨a, vs, q, g.hd.trans h, RepWk.fz hG n r g.tl⟩
theorem RepWs.fz (hG : Same G G') : ∀ {w : List W} {v : List V} {as : List Addr}, nostos w = true → RepWs z G H w v as → Ag as H G' → Reps z G' (fzs w) v
  | [], _, _, _, r, _ => r.1
  | _ :: _, _, _, n, ⟨v, vs, a1, a2, q, q2, r, r2⟩, g => by subst q2; exact ⟨v, vs, q, RepW.fz hG (band n).1 r g.l, RepWs.fz hG (band n).2 r2 g.r⟩
theorem RepWf.fz (hG : Same G G') : ∀ {w : List (String × W)} {v : List (Str × V)} {as : List Addr}, nostof w = true → RepWf z G H w v as → Ag as H G' → RepF z G' (fzf w) v
  | [], _, _, _, r, _ => r.1
  | (_, _) :: _, _, _, n, ⟨v, vs, a1, a2, q, q2, r, r2⟩, g => by subst q2; exact ⟨v, vs, q, RepW.fz hG (band n).1 r g.l, RepWf.fz hG (band n).2 r2 g.r⟩
theorem RepWk.fz (hG : Same G G') : ∀ {w : List (Key × W)} {v : List (Key × V)} {as : List Addr}, nostok w = true → RepWk z G H w v as → Ag as H G' → RepK z G' (fzk w) v
  | [], _, _, _, r, _ => r.1
  | (_, _) :: _, _, _, n, ⟨v, vs, a1, a2, q, q2, r, r2⟩, g => by subst q2; exact ⟨v, vs, q, RepW.fz hG (band n).1 r g.l, RepWk.fz hG (band n).2 r2 g.r⟩
end
/-! the addresses of a tree are tracked -/
mutual
theorem RepW.there : ∀ {w : W} {v : V} {as : List Addr}, RepW z G H w v as → ∀ a ∈ as, ∃ o, H a = some o
  | .d _, _, _, ⟨q, _⟩ => by subst q; exact fun a h => nomatch h
  | .ol _, _, _, ⟨a, vs, as', q, q2, h, r⟩ => by subst q2; exact fun b m => (List.mem_cons.mp m).elim (fun e => ⟨_, e ▸ h⟩) (RepWs.there r b)
  | .ot _, _, _, ⟨a, vs, as', q, q2, h, r⟩ => by subst q2; exact fun b m => (List.mem_cons.mp m).elim (fun e => ⟨_, e ▸ h⟩) (RepWs.there r b)
  | .oi _ _, _, _, ⟨a, C, dx, vs, as', q, q2, m, h, h2, r⟩ => by
    subst q2
    exact fun b m => (List.mem_cons.mp m).elim (fun e => ⟨_, e ▸ h⟩) fun m => (List.mem_cons.mp m).elim (fun e => ⟨_, e ▸ h2⟩) (RepWf.there r b)
  | .od _, _, _, ⟨a, vs, as', q, q2, h, r⟩ => by subst q2; exact fun b m => (List.mem_cons.mp m).elim (fun e => ⟨_, e ▸ h⟩) (RepWk.there r b)
  | .sto, _, _, ⟨q, _⟩ => by subst q; exact fun a h => nomatch h
  | .exn _ _, _, _, ⟨q, _⟩ => by subst q; exact fun a h => nomatch h
  | .oL _, _, _, ⟨a, vs, as', _, q, q2, h, r⟩ => by subst q2; exact fun b m => (List.mem_cons.mp m).elim (fun e => ⟨_, e ▸ h⟩) (RepWs.there r b)
theorem RepWs.there : ∀ {w : List W} {v : List V} {as : List Addr}, RepWs z G H w v as → ∀ a ∈ as, ∃ o, H a = some o
  | [], _, _, ⟨_, q⟩ => by subst q; exact fun a h => nomatch h
  | _ :: _, _, _, ⟨v, vs, a1, a2, q, q2, r, r2⟩ => by subst q2; exact fun b m => (List.mem_append.mp m).elim (RepW.there r b) (RepWs.there r2 b)
theorem RepWf.there : ∀ {w : List (String × W)} {v : List (Str × V)} {as : List Addr}, RepWf z G H w v as → ∀ a ∈ as, ∃ o, H a = some o
  | [], _, _, ⟨_, q⟩ => by subst q; exact fun a h => nomatch h
  | (_, _) :: _, _, _, ⟨v, vs, a1, a2, q, q2, r, r2⟩ => by subst q2; exact fun b m => (List.mem_append.mp m).elim (RepW.there r b) (RepWf.there r2 b)
theorem RepWk.there : ∀ {w : List (Key × W)} {v : List (Key × V)} {as : List Addr}, RepWk z G H w v as → ∀ a ∈ as, ∃ o, H a = some o
  | [], _, _, ⟨_, q⟩ => by subst q; exact fun a h => nomatch h
  | (_, _) :: _, _, _, ⟨v, vs, a1, a2, q, q2, r, r2⟩ => by subst q2; exact fun b m => (List.mem_append.mp m).elim (RepW.there r b) (RepWk.there r2 b)
end
end
end DL

/-! DL2: the relation between plain state (a stack of values, an environment) and slots and heap. -/
namespace DL
open PySem PySem.Spec
open PyProof.Rows L2
abbrev St := L2.St
abbrev Env := List (Option W)

/-! the store of a law: a list of the cells and five numbers -/
def cellOk : D → Prop
  | .lst [.int t, .int n] => 0 ≤ n
  | _ => False
def StoOk (z : Z) (H : Hp) (s : Addr) : Prop := ∃ (p g f r c : Int) (u : V) (xs : List D), z.sv = some u ∧ H s = some (.lst [u, .int p, .int g, .int f, .int r, .int c]) ∧ (0 ≤ p ∧ 0 ≤ g ∧ 0 ≤ r ∧ r < 2147483647) ∧ Rep z z.G0 (.cel xs) u ∧ ∀ x ∈ xs, cellOk x

def Z.Own (z : Z) (a : Addr) : Prop := z.H0 a = none ∨ (z.op = true ∧ z.s = some a)
structure Core (z : Z) (G H : Hp) : Prop where
  g0 : Same z.G0 G
  gh : Same G H
  keep : ∀ b o, z.H0 b = some o → z.s ≠ some b → H b = some o
  fresh : ∀ b, G b ≠ none → z.G0 b ≠ none ∨ z.Own b
  sH : ∀ s, z.s = some s → z.G0 s = none ∧ z.H0 s ≠ none
  xd : ∀ i, z.ex = some i → ∀ dx, i.d = some dx → ∃ us, H dx = some (.xd us) ∧ RepF z G i.fs us
  sto : z.op = false → ∀ s, z.s = some s → StoOk z H s
theorem StoOk.there {z : Z} {H : Hp} {s : Addr} (h : StoOk z H s) : ∃ o, H s = some o := let ⟨_, _, _, _, _, _, _, _, e, _⟩ := h; ⟨_, e⟩
theorem StoOk.of {z : Z} {H H' : Hp} {s : Addr} (h : StoOk z H s) (e : H' s = H s) : StoOk z H' s := let ⟨p, g, f, r, c, u, xs, h1, h2, h3⟩ := h; ⟨p, g, f, r, c, u, xs, h1, e.trans h2, h3⟩
theorem Core.sG {z : Z} {G H : Hp} (c : Core z G H) (ho : z.op = false) {s : Addr} (h : z.s = some s) : G s = none := by
  cases e : G s with
  | none => rfl
  | some o =>
    rcases c.fresh s (by rw [e]; exact fun q => nomatch q) with q | q | ⟨q, _⟩
    · exact absurd (c.sH s h).1 q
    · exact absurd q (c.sH s h).2
    · rw [ho] at q; cases q

/-- one entry of the stack -/
def RepT (z : Z) (G H : Hp) (σ : St) : W → V → List Addr → Prop
  | .at_ i, v, as => as = [] ∧ σ[i]? = some (some v)
  | .hole, _, as => as = []
  | .d x, v, as => RepW z G H (.d x) v as
  | .ol ws, v, as => RepW z G H (.ol ws) v as
  | .ot ws, v, as => RepW z G H (.ot ws) v as
  | .oi c fs, v, as => RepW z G H (.oi c fs) v as
  | .od kvs, v, as => RepW z G H (.od kvs) v as
  | .sto, v, as => RepW z G H .sto v as
  | .exn c fs, v, as => RepW z G H (.exn c fs) v as
  | .oL ws, v, as => RepW z G H (.oL ws) v as
def tree : W → Bool
  | .at_ _ => false
  | .hole => false
  | _ => true
theorem RepT.w {z : Z} {G H : Hp} {σ : St} {w : W} {v : V} {as : List Addr} (h : RepT z G H σ w v as) (t : tree w = true) : RepW z G H w v as := by
  cases w <;> first | exact h | cases t
theorem RepT.of {z : Z} {G H : Hp} {σ : St} {w : W} {v : V} {as : List Addr} (h : RepW z G H w v as) : RepT z G H σ w v as := by
  cases w <;> first | exact h | exact h.elim
theorem RepT.move {z z' : Z} {G G' H H' : Hp} {σ : St} {w : W} {v : V} {as : List Addr} (e : z.like z') (es : z.sub z') (hG : Same G G') (h : RepT z G H σ w v as) (g : Ag as H H') : RepT z' G' H' σ w v as := by
  cases w <;> first | exact RepW.move e es hG h g | exact h
theorem RepT.there {z : Z} {G H : Hp} {σ : St} {w : W} {v : V} {as : List Addr} (h : RepT z G H σ w v as) : ∀ a ∈ as, ∃ o, H a = some o := by
  cases w with
  | at_ i => obtain ⟨q, _⟩ := h; subst q; exact fun a m => nomatch m
  | hole =>
    have q : as = [] := h
    subst q
    exact fun a m => nomatch m
  | _ => exact RepW.there h
def RepSt (z : Z) (G H : Hp) (σ : St) : List W → List V → List Addr → Prop
  | [], vs, as => vs = [] ∧ as = []
  | w :: ws, vs, as => ∃ v vs' a1 a2, vs = v :: vs' ∧ as = a1 ++ a2 ∧ RepT z G H σ w v a1 ∧ RepSt z G H σ ws vs' a2
def RepE (z : Z) (G H : Hp) : Env → St → List Addr → Prop
  | [], σ, as => σ = [] ∧ as = []
  | none :: e, σ, as => ∃ o σ', σ = o :: σ' ∧ RepE z G H e σ' as
  | some w :: e, σ, as => ∃ v σ' a1 a2, σ = some v :: σ' ∧ as = a1 ++ a2 ∧ RepW z G H w v a1 ∧ RepE z G H e σ' a2
section
variable {z z' : Z} {G G' H H' : Hp} {σ : St}
theorem RepSt.move (e : z.like z') (es : z.sub z') (hG : Same G G') : ∀ {ws : List W} {vs : List V} {as : List Addr}, RepSt z G H σ ws vs as → Ag as H H' → RepSt z' G' H' σ ws vs as
  | [], _, _, r, _ => r
  | _ :: _, _, _, ⟨v, vs, a1, a2, q, q2, r, r2⟩, g => by subst q2; exact ⟨v, vs, a1, a2, q, rfl, r.move e es hG g.l, RepSt.move e es hG r2 g.r⟩
theorem RepSt.there : ∀ {ws : List W} {vs : List V} {as : List Addr}, RepSt z G H σ ws vs as → ∀ a ∈ as, ∃ o, H a = some o
  | [], _, _, ⟨_, q⟩ => by subst q; exact fun a h => nomatch h
  | _ :: _, _, _, ⟨v, vs, a1, a2, q, q2, r, r2⟩ => by subst q2; exact fun b m => (List.mem_append.mp m).elim (r.there b) (RepSt.there r2 b)
theorem RepE.move (e : z.like z') (es : z.sub z') (hG : Same G G') : ∀ {env : Env} {σ : St} {as : List Addr}, RepE z G H env σ as → Ag as H H' → RepE z' G' H' env σ as
  | [], _, _, r, _ => r
  | none :: _, _, _, ⟨o, σ', q, r⟩, g => ⟨o, σ', q, RepE.move e es hG r g⟩
  | some _ :: _, _, _, ⟨v, vs, a1, a2, q, q2, r, r2⟩, g => by subst q2; exact ⟨v, vs, a1, a2, q, rfl, r.move e es hG g.l, RepE.move e es hG r2 g.r⟩
theorem RepE.there : ∀ {env : Env} {σ : St} {as : List Addr}, RepE z G H env σ as → ∀ a ∈ as, ∃ o, H a = some o
  | [], _, _, ⟨_, q⟩ => by subst q; exact fun a h => nomatch h
  | none :: _, _, _, ⟨o, σ', q, r⟩ => RepE.there r
  | some _ :: _, _, _, ⟨v, vs, a1, a2, q, q2, r, r2⟩ => by subst q2; exact fun b m => (List.mem_append.mp m).elim (RepW.there r b) (RepE.there r2 b)
theorem RepE.len : ∀ {env : Env} {σ : St} {as : List Addr}, RepE z G H env σ as → σ.length = env.length
  | [], _, _, ⟨q, _⟩ => by subst q; rfl
  | none :: _, _, _, ⟨o, σ', q, r⟩ => by subst q; exact congrArg Nat.succ (RepE.len r)
  | some _ :: _, _, _, ⟨v, vs, a1, a2, q, q2, r, r2⟩ => by subst q; exact congrArg Nat.succ (RepE.len r2)
/-- one slot, and what may be put in its place -/
theorem RepE.at_ : ∀ {env : Env} {σ : St} {bs : List Addr} {i : Nat} {w : W}, RepE z G H env σ bs → env[i]? = some (some w) →
    ∃ v b1 bi b2, σ[i]? = some (some v) ∧ bs = b1 ++ (bi ++ b2) ∧ RepW z G H w v bi ∧
      (∀ G' H' w' bi', Same G G' → Ag (b1 ++ b2) H H' → RepW z G' H' w' v bi' → RepE z G' H' (env.set i (some w')) σ (b1 ++ (bi' ++ b2))) ∧
      (∀ G' H' w' v' bi', Same G G' → Ag (b1 ++ b2) H H' → RepW z G' H' w' v' bi' → RepE z G' H' (env.set i (some w')) (σ.set i (some v')) (b1 ++ (bi' ++ b2))) ∧
      (∀ G' H', Same G G' → Ag (b1 ++ b2) H H' → RepE z G' H' (env.set i none) σ (b1 ++ b2))
  | [], _, _, _, _, _, e => by simp at e
  | none :: _, _, _, 0, _, _, e => by simp at e
  | some w0 :: env, _, _, 0, w, ⟨v, σ', a1, a2, q, q2, r, r2⟩, e => by
    have e0 : w0 = w := by simpa using e
    subst e0 q q2
    refine ⟨v, [], a1, a2, rfl, rfl, r, fun G' H' w' bi' hG g r' => ⟨v, σ', bi', a2, rfl, rfl, r', RepE.move Z.like_refl Z.sub_refl hG r2 g⟩, fun G' H' w' v' bi' hG g r' => ⟨v', σ', bi', a2, rfl, rfl, r', RepE.move Z.like_refl Z.sub_refl hG r2 g⟩,
      fun G' H' hG g => ⟨_, σ', rfl, RepE.move Z.like_refl Z.sub_refl hG r2 g⟩⟩
  | none :: env, _, _, i + 1, w, ⟨o, σ', q, r⟩, e => by
    obtain ⟨v, b1, bi, b2, h1, h2, h3, h4, h5, h6⟩ := RepE.at_ (i := i) (w := w) r (by simpa using e)
    subst q
    exact ⟨v, b1, bi, b2, by simpa using h1, h2, h3, fun G' H' w' bi' hG g r' => ⟨o, σ', rfl, h4 G' H' w' bi' hG g r'⟩, fun G' H' w' v' bi' hG g r' => ⟨o, _, rfl, h5 G' H' w' v' bi' hG g r'⟩, fun G' H' hG g => ⟨o, σ', rfl, h6 G' H' hG g⟩⟩
  | some w0 :: env, _, _, i + 1, w, ⟨v0, σ', a1, a2, q, q2, r0, r⟩, e => by
    obtain ⟨v, b1, bi, b2, h1, h2, h3, h4, h5, h6⟩ := RepE.at_ (i := i) (w := w) r (by simpa using e)
    subst q q2 h2
    refine ⟨v, a1 ++ b1, bi, b2, by simpa using h1, by simp [List.append_assoc], h3, fun G' H' w' bi' hG g r' => ?_, fun G' H' w' v' bi' hG g r' => ?_, fun G' H' hG g => ?_⟩
    all_goals rw [List.append_assoc] at g
    · exact ⟨v0, σ', a1, b1 ++ (bi' ++ b2), rfl, by simp [List.append_assoc], r0.move Z.like_refl Z.sub_refl hG g.l, h4 G' H' w' bi' hG g.r r'⟩
    · exact ⟨v0, _, a1, b1 ++ (bi' ++ b2), rfl, by simp [List.append_assoc], r0.move Z.like_refl Z.sub_refl hG g.l, h5 G' H' w' v' bi' hG g.r r'⟩
    · exact ⟨v0, σ', a1, b1 ++ b2, rfl, by simp [List.append_assoc], r0.move Z.like_refl Z.sub_refl hG g.l, h6 G' H' hG g.r⟩
/-- a slot is stored -/
theorem RepE.put : ∀ {env : Env} {σ : St} {bs : List Addr} {i : Nat}, RepE z G H env σ bs → i < env.length →
    ∃ b1 bi b2, bs = b1 ++ (bi ++ b2) ∧ ∀ w' v' bi', RepW z G H w' v' bi' → RepE z G H (env.set i (some w')) (σ.set i (some v')) (b1 ++ (bi' ++ b2))
  | [], _, _, _, _, e => absurd e (Nat.not_lt_zero _)
  | none :: _, _, bs, 0, ⟨o, σ', q, r⟩, _ => by subst q; exact ⟨[], [], bs, rfl, fun w' v' bi' r' => ⟨v', σ', bi', bs, rfl, rfl, r', r⟩⟩
  | some w0 :: env, _, _, 0, ⟨v, σ', a1, a2, q, q2, r, r2⟩, _ => by subst q q2; exact ⟨[], a1, a2, rfl, fun w' v' bi' r' => ⟨v', σ', bi', a2, rfl, rfl, r', r2⟩⟩
  | none :: env, _, _, i + 1, ⟨o, σ', q, r⟩, e => by
    obtain ⟨b1, bi, b2, h1, h2⟩ := RepE.put (i := i) r (Nat.lt_of_succ_lt_succ e)
    subst q
    exact ⟨b1, bi, b2, h1, fun w' v' bi' r' => ⟨o, _, rfl, h2 w' v' bi' r'⟩⟩
  | some w0 :: env, _, _, i + 1, ⟨v0, σ', a1, a2, q, q2, r0, r⟩, e => by
    obtain ⟨b1, bi, b2, h1, h2⟩ := RepE.put (i := i) r (Nat.lt_of_succ_lt_succ e)
    subst q q2 h1
    exact ⟨a1 ++ b1, bi, b2, by simp [List.append_assoc], fun w' v' bi' r' => ⟨v0, _, a1, b1 ++ (bi' ++ b2), rfl, by simp [List.append_assoc], r0, h2 w' v' bi' r'⟩⟩
theorem RepSt.app : ∀ {ws ws' : List W} {vs vs' : List V} {as as' : List Addr}, RepSt z G H σ ws vs as → RepSt z G H σ ws' vs' as' → RepSt z G H σ (ws ++ ws') (vs ++ vs') (as ++ as')
  | [], _, _, _, _, _, ⟨q, q2⟩, r' => by subst q q2; exact r'
  | _ :: _, _, _, _, _, _, ⟨v, vs, a1, a2, q, q2, r, r2⟩, r' => by subst q q2; exact ⟨v, _, a1, a2 ++ _, rfl, by simp [List.append_assoc], r, RepSt.app r2 r'⟩
theorem RepSt.split : ∀ {ws ws' : List W} {vs : List V} {as : List Addr}, RepSt z G H σ (ws ++ ws') vs as → ∃ v1 v2 a1 a2, vs = v1 ++ v2 ∧ as = a1 ++ a2 ∧ RepSt z G H σ ws v1 a1 ∧ RepSt z G H σ ws' v2 a2
  | [], _, vs, as, r => ⟨[], vs, [], as, rfl, rfl, ⟨rfl, rfl⟩, r⟩
  | _ :: _, _, _, _, ⟨v, vs, a1, a2, q, q2, r, r2⟩ => by
    obtain ⟨v1, v2, b1, b2, h1, h2, h3, h4⟩ := RepSt.split r2
    subst q q2 h1 h2
    exact ⟨v :: v1, v2, a1 ++ b1, b2, rfl, by simp [List.append_assoc], ⟨v, v1, a1, b1, rfl, rfl, r, h3⟩, h4⟩
/-- a row of trees on the stack is a row of trees -/
theorem RepSt.ws : ∀ {ws : List W} {vs : List V} {as : List Addr}, ws.all tree = true → RepSt z G H σ ws vs as → RepWs z G H ws vs as
  | [], _, _, _, r => r
  | w :: ws, _, _, t, ⟨v, vs, a1, a2, q, q2, r, r2⟩ => by
    obtain ⟨t1, t2⟩ := band (show (tree w && ws.all tree) = true from t)
    exact ⟨v, vs, a1, a2, q, q2, r.w t1, RepSt.ws t2 r2⟩
end

/-- THE RELATION: stk the values at hand, the last one first; env what the slots hold -/
def Rel (z : Z) (stk : List W) (vs : List V) (env : Env) (σ : St) (H : Hp) : Prop :=
  ∃ G as bs, RepSt z G H σ stk vs as ∧ RepE z G H env σ bs ∧ (as ++ bs).Nodup ∧ (∀ a ∈ as ++ bs, G a = none ∧ z.Own a) ∧ Core z G H

section
variable {z : Z} {stk : List W} {vs : List V} {env : Env} {σ : St} {H : Hp} {w : W} {v : V}
theorem nodup_sub {as bs : List Addr} (h : List.Sublist as bs) (n : bs.Nodup) : as.Nodup := n.sublist h
/-- the top is dropped -/
theorem Rel.pop (r : Rel z (w :: stk) (v :: vs) env σ H) : Rel z stk vs env σ H := by
  obtain ⟨G, as, bs, ⟨v', vs', a1, a2, q, q2, r1, r2⟩, re, nd, ow, c⟩ := r
  cases q; subst q2
  refine ⟨G, a2, bs, r2, re, ?_, fun a m => ow a ?_, c⟩
  · rw [List.append_assoc] at nd
    exact (List.nodup_append.mp nd).2.1
  · rw [List.append_assoc]
    exact List.mem_append_right _ m
theorem Rel.top (r : Rel z (w :: stk) vs env σ H) : ∃ v vs', vs = v :: vs' := by
  obtain ⟨G, as, bs, ⟨v', vs', a1, a2, q, q2, r1, r2⟩, re, nd, ow, c⟩ := r
  exact ⟨v', vs', q⟩
theorem Rel.nil_ (r : Rel z [] vs env σ H) : vs = [] := by
  obtain ⟨G, as, bs, ⟨q, _⟩, _⟩ := r
  exact q
theorem Rel.len (r : Rel z stk vs env σ H) : σ.length = env.length := by
  obtain ⟨G, as, bs, _, re, _⟩ := r
  exact re.len
/-- what stands still may be pushed -/
theorem Rel.push (r : Rel z stk vs env σ H) {x : D} (h : ∀ G, Same z.G0 G → Same G H → Core z G H → Rep z G x v) : Rel z (.d x :: stk) (v :: vs) env σ H := by
  obtain ⟨G, as, bs, rs, re, nd, ow, c⟩ := r
  exact ⟨G, as, bs, ⟨v, vs, [], as, rfl, rfl, ⟨rfl, h G c.g0 c.gh c⟩, rs⟩, re, nd, ow, c⟩
theorem Rel.pushInt (r : Rel z stk vs env σ H) {i : Int} : Rel z (.d (.int i) :: stk) (.int i :: vs) env σ H := r.push fun _ _ _ _ => rfl
theorem Rel.pushBl (r : Rel z stk vs env σ H) {i : Bool} : Rel z (.d (.bl i) :: stk) (.bl i :: vs) env σ H := r.push fun _ _ _ _ => rfl
theorem Rel.pushNon (r : Rel z stk vs env σ H) : Rel z (.d .non :: stk) (.non :: vs) env σ H := r.push fun _ _ _ _ => rfl
theorem Rel.pushStr (r : Rel z stk vs env σ H) {i : List Nat} : Rel z (.d (.str i) :: stk) (.str ⟨i.toArray⟩ :: vs) env σ H := r.push fun _ _ _ _ => rfl
theorem Rel.pushAt (r : Rel z stk vs env σ H) {i : Nat} (h : σ[i]? = some (some v)) : Rel z (.at_ i :: stk) (v :: vs) env σ H := by
  obtain ⟨G, as, bs, rs, re, nd, ow, c⟩ := r
  exact ⟨G, as, bs, ⟨v, vs, [], as, rfl, rfl, ⟨rfl, h⟩, rs⟩, re, nd, ow, c⟩
theorem Rel.slot (r : Rel z stk vs env σ H) {i : Nat} (h : env[i]? = some (some w)) : ∃ v, σ[i]? = some (some v) := by
  obtain ⟨G, as, bs, rs, re, nd, ow, c⟩ := r
  obtain ⟨v, _, _, _, q, _⟩ := re.at_ h
  exact ⟨v, q⟩

/-! looking at a value -/
def peek (env : Env) : W → Option W
  | .at_ i => match env[i]? with
    | some (some w) => some w
    | _ => none
  | .hole => none
  | .d x => some (.d x)
  | .ol ws => some (.ol ws)
  | .ot ws => some (.ot ws)
  | .oi c fs => some (.oi c fs)
  | .od kvs => some (.od kvs)
  | .sto => some .sto
  | .exn c fs => some (.exn c fs)
  | .oL ws => some (.oL ws)
/-- the value as it may be read now -/
def Rd1 (z : Z) (H : Hp) (w : W) (v : V) : Prop := ∃ G as, Same G H ∧ RepW z G H w v as
theorem Rel.look (r : Rel z (w :: stk) (v :: vs) env σ H) {w' : W} (h : peek env w = some w') : Rd1 z H w' v := by
  obtain ⟨G, as, bs, ⟨v', vs', a1, a2, q, q2, r1, r2⟩, re, nd, ow, c⟩ := r
  cases q
  cases w with
  | at_ i =>
    obtain ⟨_, e⟩ := r1
    have h2 : env[i]? = some (some w') := by
      have h3 : (match env[i]? with | some (some w) => some w | _ => none) = some w' := h
      cases e1 : env[i]? with
      | none => rw [e1] at h3; cases h3
      | some o =>
        rw [e1] at h3
        cases o with
        | none => cases h3
        | some w1 => cases h3; rfl
    obtain ⟨v2, b1, bi, b2, e2, _, h3, _⟩ := re.at_ h2
    rw [e] at e2
    cases e2
    exact ⟨G, bi, c.gh, h3⟩
  | hole => cases h
  | _ => cases h; exact ⟨G, a1, c.gh, r1⟩
/-- the second value from the top -/
theorem Rel.look2 {w2 : W} {v2 : V} (r : Rel z (w2 :: w :: stk) (v2 :: v :: vs) env σ H) {w' : W} (h : peek env w = some w') : Rd1 z H w' v := r.pop.look h
theorem Rel.look3 {w2 w3 : W} {v2 v3 : V} (r : Rel z (w3 :: w2 :: w :: stk) (v3 :: v2 :: v :: vs) env σ H) {w' : W} (h : peek env w = some w') : Rd1 z H w' v := r.pop.pop.look h

theorem Rd1.d {x : D} (r : Rd1 z H (.d x) v) : Rep z H x v := let ⟨_, _, g, _, h⟩ := r; Rep.mono g h
theorem Rd1.of {x : D} (r : Rep z H x v) : Rd1 z H (.d x) v := ⟨H, [], Same.refl _, rfl, r⟩

/-! rows: a list or a tuple -/
inductive SeqK where
  | l | r | t
  deriving DecidableEq
def seqW : W → Option (SeqK × List W)
  | .d (.lst xs) => some (.l, xs.map .d)
  | .d (.klst xs) => some (.r, xs.map .d)
  | .d (.tup xs) => some (.t, xs.map .d)
  | .d (.cel xs) => some (.l, xs.map .d)
  | .ol ws => some (.l, ws)
  | .oL ws => some (.l, ws)
  | .ot ws => some (.t, ws)
  | _ => none
def SqK (K : PySem.W.Frag) (H : Hp) (a : Addr) (vs : List V) : SeqK → Prop
  | .l => H a = some (.lst vs)
  | .r => SqL K H a vs
  | .t => SqT K H a vs
def Rds (z : Z) (H : Hp) : List W → List V → Prop
  | [], vs => vs = []
  | w :: ws, vs => ∃ v vs', vs = v :: vs' ∧ Rd1 z H w v ∧ Rds z H ws vs'
theorem Rds.len : ∀ {ws : List W} {vs : List V}, Rds z H ws vs → vs.length = ws.length
  | [], _, q => by cases q; rfl
  | _ :: _, _, ⟨v, vs', q, _, r⟩ => by subst q; exact congrArg Nat.succ (Rds.len r)
theorem Rds.get : ∀ {ws : List W} {vs : List V} {i : Nat} {w : W}, Rds z H ws vs → ws[i]? = some w → ∃ v, vs[i]? = some v ∧ Rd1 z H w v
  | [], _, _, _, _, e => by simp at e
  | w0 :: _, _, 0, w, ⟨v, vs', q, r, _⟩, e => by
    have e0 : w0 = w := by simpa using e
    subst q e0
    exact ⟨v, rfl, r⟩
  | _ :: _, _, i + 1, w, ⟨v, vs', q, _, r⟩, e => by
    subst q
    obtain ⟨u, h1, h2⟩ := Rds.get (i := i) r (by simpa using e)
    exact ⟨u, by simpa using h1, h2⟩
theorem reps_rds {G : Hp} (g : Same G H) : ∀ {xs : List D} {vs : List V}, Reps z G xs vs → Rds z H (xs.map .d) vs
  | [], _, q => q
  | _ :: _, _, ⟨v, vs', q, r, r2⟩ => ⟨v, vs', q, ⟨G, [], g, rfl, r⟩, reps_rds g r2⟩
theorem repws_rds {G : Hp} (g : Same G H) : ∀ {xs : List W} {vs : List V} {as : List Addr}, RepWs z G H xs vs as → Rds z H xs vs
  | [], _, _, q => q.1
  | _ :: _, _, _, ⟨v, vs', a1, a2, q, _, r, r2⟩ => ⟨v, vs', q, ⟨G, a1, g, r⟩, repws_rds g r2⟩
theorem Same.sqk {K : PySem.W.Frag} {G H : Hp} {a : Addr} {vs : List V} {k : SeqK} (g : Same G H) (h : SqK K G a vs k) : SqK K H a vs k := by
  cases k with
  | l => exact g _ _ h
  | r => exact g.seq h
  | t => exact Same.tup g h
theorem Rd1.seq {k : SeqK} {ws : List W} (r : Rd1 z H w v) (h : seqW w = some (k, ws)) : ∃ a us, v = .ref a ∧ SqK z.K H a us k ∧ Rds z H ws us := by
  obtain ⟨G, as, g, r⟩ := r
  cases w with
  | d x =>
    obtain ⟨_, r⟩ := r
    cases x with
    | lst xs => cases h; obtain ⟨a, us, q, s, r⟩ := r; exact ⟨a, us, q, g _ _ s, reps_rds g r⟩
    | klst xs => cases h; obtain ⟨a, us, q, s, r⟩ := r; exact ⟨a, us, q, g.seq s, reps_rds g r⟩
    | tup xs => cases h; obtain ⟨a, us, q, s, r⟩ := r; exact ⟨a, us, q, Same.tup g s, reps_rds g r⟩
    | cel xs => cases h; obtain ⟨_, a, us, q, s, r⟩ := r; exact ⟨a, us, q, g _ _ s, reps_rds g r⟩
    | _ => cases h
  | ol ws => cases h; obtain ⟨a, us, as', q, _, e, r⟩ := r; exact ⟨a, us, q, e, repws_rds g r⟩
  | oL ws => cases h; obtain ⟨a, us, as', _, q, _, e, r⟩ := r; exact ⟨a, us, q, e, repws_rds g r⟩
  | ot ws => cases h; obtain ⟨a, us, as', q, _, e, r⟩ := r; exact ⟨a, us, q, SqT.of e, repws_rds g r⟩
  | _ => cases h
end
end DL

/-! DL3: taking values, new objects, changed objects, what a call leaves. -/
namespace DL
open PySem PySem.Spec
open PyProof.Rows L2
section
variable {z : Z} {stk : List W} {vs : List V} {env : Env} {σ : St} {H : Hp} {w : W} {v : V}

/-! taking -/
/-- a value as data; what a slot owns is frozen there -/
def useD (w : W) (env : Env) (k : D → Env → Prop) : Prop := match w with
  | .at_ i => match env[i]? with
    | some (some w0) => match w0 with
      | .d x => k x env
      | _ => nosto w0 = true ∧ k (fz w0) (env.set i (some (.d (fz w0))))
    | _ => False
  | .hole => False
  | .d x => k x env
  | w => nosto w = true ∧ k (fz w) env
theorem useD_own {w0 : W} {env : Env} {i : Nat} {k : D → Env → Prop} (h : env[i]? = some (some w0)) (u : useD (.at_ i) env k) : (∃ x, w0 = .d x ∧ k x env) ∨ (nosto w0 = true ∧ k (fz w0) (env.set i (some (.d (fz w0))))) := by
  unfold useD at u
  simp only [h] at u
  cases w0 with
  | d x => exact .inl ⟨x, rfl, u⟩
  | _ => exact .inr u
/-- H's objects at as taken into G -/
def grow (G H : Hp) (as : List Addr) : Hp := fun b => if b ∈ as then H b else G b
theorem grow_in {G H : Hp} {as : List Addr} {a : Addr} (h : a ∈ as) : grow G H as a = H a := if_pos h
theorem grow_out {G H : Hp} {as : List Addr} {a : Addr} (h : a ∉ as) : grow G H as a = G a := if_neg h
theorem grow_same {G H : Hp} {as : List Addr} (h : ∀ a ∈ as, G a = none) : Same G (grow G H as) := fun b o e => by
  by_cases m : b ∈ as
  · rw [h b m] at e; cases e
  · rw [grow_out m]; exact e
theorem Core.grow {G H : Hp} {as : List Addr} (c : Core z G H) (h : ∀ a ∈ as, G a = none ∧ z.Own a) : Core z (grow G H as) H := by
  have s1 : Same G (DL.grow G H as) := grow_same fun a m => (h a m).1
  refine ⟨c.g0.trans s1, fun b o e => ?_, c.keep, fun b q => ?_, c.sH, fun i hi dx hd => ?_, fun ho s hs => ?_⟩
  · by_cases m : b ∈ as
    · rw [grow_in m] at e; exact e
    · rw [grow_out m] at e; exact c.gh b o e
  · by_cases m : b ∈ as
    · exact .inr (h b m).2
    · rw [grow_out m] at q; exact c.fresh b q
  · obtain ⟨us, h1, h2⟩ := c.xd i hi dx hd
    exact ⟨us, h1, RepF.mono s1 h2⟩
  · exact c.sto ho s hs
theorem not_mem_of_nodup {as bs : List Addr} (n : (as ++ bs).Nodup) {a : Addr} (h : a ∈ as) : a ∉ bs := fun h2 => (List.nodup_append.mp n).2.2 a h a h2 rfl

/-- the top as data -/
theorem Rel.useD {k : D → Env → Prop} (r : Rel z (w :: stk) (v :: vs) env σ H) (u : DL.useD w env k) : ∃ x env', Rel z (.d x :: stk) (v :: vs) env' σ H ∧ k x env' := by
  obtain ⟨G, as, bs, ⟨v', vs', a1, a2, q, q2, r1, r2⟩, re, nd, ow, c⟩ := r
  cases q; subst q2
  -- an owned tree on the stack
  have own : ∀ {w0 : W}, RepW z G H w0 v a1 → nosto w0 = true → k (fz w0) env → ∃ x env', Rel z (.d x :: stk) (v :: vs) env' σ H ∧ k x env' := fun {w0} rw0 n hk => by
    have o1 : ∀ a ∈ a1, G a = none ∧ z.Own a := fun a m => ow a (List.mem_append_left _ (List.mem_append_left _ m))
    have s1 : Same G (DL.grow G H a1) := grow_same fun a m => (o1 a m).1
    have nd2 : (a2 ++ bs).Nodup := by rw [List.append_assoc] at nd; exact (List.nodup_append.mp nd).2.1
    refine ⟨_, env, ⟨DL.grow G H a1, a2, bs, ⟨v, vs, [], a2, rfl, rfl, ⟨rfl, RepW.fz s1 n rw0 fun a m => grow_in m⟩, r2.move Z.like_refl Z.sub_refl s1 fun _ _ => rfl⟩, re.move Z.like_refl Z.sub_refl s1 fun _ _ => rfl, nd2, fun a m => ?_, c.grow o1⟩, hk⟩
    have m2 : a ∈ a1 ++ a2 ++ bs := by rw [List.append_assoc]; exact List.mem_append_right _ m
    have na : a ∉ a1 := fun m1 => not_mem_of_nodup (by rw [List.append_assoc] at nd; exact nd) m1 m
    rw [grow_out na]
    exact ow a m2
  cases w with
  | at_ i =>
    obtain ⟨e1, e2⟩ := r1
    subst e1
    cases hi : env[i]? with
    | none => unfold DL.useD at u; simp only [hi] at u
    | some o =>
      cases o with
      | none => unfold DL.useD at u; simp only [hi] at u
      | some w0 =>
        obtain ⟨v2, b1, bi, b2, h1, h2, h3, h4, _, _⟩ := re.at_ hi
        rw [e2] at h1; cases h1; subst h2
        rcases useD_own hi u with ⟨x, rfl, hk⟩ | ⟨n, hk⟩
        · exact ⟨x, env, ⟨G, a2, _, ⟨v, vs, [], a2, rfl, rfl, ⟨rfl, h3.2⟩, r2⟩, re, nd, ow, c⟩, hk⟩
        · have o1 : ∀ a ∈ bi, G a = none ∧ z.Own a := fun a m => ow a (List.mem_append_right _ (List.mem_append_right _ (List.mem_append_left _ m)))
          have s1 : Same G (DL.grow G H bi) := grow_same fun a m => (o1 a m).1
          have pm : List.Perm ([] ++ a2 ++ (b1 ++ (bi ++ b2))) (bi ++ (a2 ++ (b1 ++ ([] ++ b2)))) := by
            simp only [List.nil_append]
            refine ((List.perm_append_comm_assoc b1 bi b2).append_left a2).trans ?_
            exact List.perm_append_comm_assoc a2 bi (b1 ++ b2)
          have nd2 := (pm.nodup_iff).mp nd
          refine ⟨_, _, ⟨DL.grow G H bi, a2, b1 ++ ([] ++ b2), ⟨v, vs, [], a2, rfl, rfl, ⟨rfl, RepW.fz s1 n h3 fun a m => grow_in m⟩, r2.move Z.like_refl Z.sub_refl s1 fun _ _ => rfl⟩,
            h4 _ _ (.d (fz w0)) [] s1 (fun _ _ => rfl) ⟨rfl, RepW.fz s1 n h3 fun a m => grow_in m⟩, (List.nodup_append.mp nd2).2.1, fun a m => ?_, c.grow o1⟩, hk⟩
          have na : a ∉ bi := fun m1 => not_mem_of_nodup nd2 m1 m
          rw [grow_out na]
          exact ow a ((pm.mem_iff).mpr (List.mem_append_right _ m))
  | hole => exact u.elim
  | d x => exact ⟨x, env, ⟨G, _, bs, ⟨v, vs, a1, a2, rfl, rfl, r1, r2⟩, re, nd, ow, c⟩, u⟩
  | ol ws => exact own r1 u.1 u.2
  | ot ws => exact own r1 u.1 u.2
  | oi c fs => exact own r1 u.1 u.2
  | od kvs => exact own r1 u.1 u.2
  | sto => exact absurd u.1 (by decide)
  | exn _ _ => exact nomatch (show (false = true) from u.1)
  | oL ws => exact nomatch u.1
/-- a value as a tree: what stands on the stack alone is kept owned -/
def useW (w : W) (env : Env) (k : W → Env → Prop) : Prop := match w with
  | .at_ i => useD (.at_ i) env fun x env' => k (.d x) env'
  | .hole => False
  | w => nosto w = true ∧ k w env
theorem Rel.useW {k : W → Env → Prop} (r : Rel z (w :: stk) (v :: vs) env σ H) (u : DL.useW w env k) : ∃ w' env', tree w' = true ∧ nosto w' = true ∧ Rel z (w' :: stk) (v :: vs) env' σ H ∧ k w' env' := by
  cases w with
  | at_ i =>
    obtain ⟨x, env', r', hk⟩ := r.useD u
    exact ⟨.d x, env', rfl, rfl, r', hk⟩
  | hole => exact u.elim
  | sto => exact absurd u.1 (by decide)
  | exn _ _ => exact nomatch (show (false = true) from u.1)
  | oL ws => exact nomatch u.1
  | _ => exact ⟨_, env, rfl, u.1, r, u.2⟩

/-! new objects -/
theorem Core.upd {G : Hp} {p : Addr} {o : HO} (c : Core z G H) (hp : H p = none) : Core z G (upd H p o) := by
  refine ⟨c.g0, fun b u e => ?_, fun b u e n => ?_, c.fresh, c.sH, fun i hi dx hd => ?_, fun ho s hs => ?_⟩
  · rw [upd_ne (ne_of_none (c.gh b u e) hp)]; exact c.gh b u e
  · rw [upd_ne (ne_of_none (c.keep b u e n) hp)]; exact c.keep b u e n
  · obtain ⟨us, h1, h2⟩ := c.xd i hi dx hd
    exact ⟨us, by rw [upd_ne (ne_of_none h1 hp)]; exact h1, h2⟩
  · obtain ⟨o, h1⟩ := (c.sto ho s hs).there
    exact (c.sto ho s hs).of (upd_ne (ne_of_none h1 hp))
theorem ag_new {as : List Addr} {p : Addr} {o : HO} (h : ∀ a ∈ as, ∃ u, H a = some u) (hp : H p = none) : Ag as H (upd H p o) := fun a m => by
  obtain ⟨u, e⟩ := h a m
  exact upd_ne (ne_of_none e hp)
theorem Core.newOwn {G : Hp} {p : Addr} (c : Core z G H) (hp : H p = none) (ho : z.op = false) : G p = none ∧ z.Own p := by
  refine ⟨c.gh.free hp, .inl ?_⟩
  cases e : z.H0 p with
  | none => rfl
  | some o =>
    by_cases hs : z.s = some p
    · obtain ⟨us, h1⟩ := (c.sto ho p hs).there
      rw [hp] at h1; cases h1
    · have := c.keep p o e hs
      rw [hp] at this; cases this
/-- a row of trees on the stack becomes a new list (tuple) -/
theorem Rel.row {ws : List W} {us : List V} {p : Addr} (r : Rel z (ws ++ stk) (us ++ vs) env σ H) (hl : us.length = ws.length) (t : ws.all tree = true) (hp : H p = none) (hop : z.op = false) {k : SeqK} :
    Rel z ((match k with | .t => W.ot ws | _ => W.ol ws) :: stk) (.ref p :: vs) env σ (upd H p (match k with | .t => .tup us | _ => .lst us)) := by
  obtain ⟨G, as, bs, rs, re, nd, ow, c⟩ := r
  obtain ⟨v1, v2, a1, a2, q, q2, r1, r2⟩ := rs.split
  have l1 : v1.length = ws.length := by
    have : ∀ {ws : List W} {vs : List V} {as : List Addr}, RepWs z G H ws vs as → vs.length = ws.length := fun {ws vs as} h => (repws_rds (H := H) c.gh h).len
    exact this (r1.ws t)
  obtain ⟨e1, e2⟩ := List.append_inj q (by rw [hl, l1])
  subst e1 e2 q2
  have ag : Ag (a1 ++ a2 ++ bs) H (upd H p (match k with | .t => .tup us | _ => .lst us)) := ag_new (fun a m => by
    rcases List.mem_append.mp m with m | m
    · rcases List.mem_append.mp m with m | m
      · exact r1.there a m
      · exact r2.there a m
    · exact re.there a m) hp
  have nm : p ∉ a1 ++ a2 ++ bs := fun m => by
    have h1 : ∃ u, H p = some u := by
      rcases List.mem_append.mp m with m | m
      · rcases List.mem_append.mp m with m | m
        · exact r1.there p m
        · exact r2.there p m
      · exact re.there p m
    obtain ⟨u, e⟩ := h1
    rw [hp] at e; cases e
  refine ⟨G, p :: a1 ++ a2, bs, ⟨.ref p, vs, p :: a1, a2, rfl, rfl, ?_, r2.move Z.like_refl Z.sub_refl (Same.refl _) ag.l.r⟩, re.move Z.like_refl Z.sub_refl (Same.refl _) ag.r, ?_, fun a m => ?_, c.upd hp⟩
  · cases k with
    | l => exact ⟨p, us, a1, rfl, rfl, upd_same, (r1.ws t).move Z.like_refl Z.sub_refl (Same.refl _) ag.l.l⟩
    | r => exact ⟨p, us, a1, rfl, rfl, upd_same, (r1.ws t).move Z.like_refl Z.sub_refl (Same.refl _) ag.l.l⟩
    | t => exact ⟨p, us, a1, rfl, rfl, upd_same, (r1.ws t).move Z.like_refl Z.sub_refl (Same.refl _) ag.l.l⟩
  · exact List.nodup_cons.mpr ⟨nm, nd⟩
  · rcases List.mem_cons.mp (show a ∈ p :: (a1 ++ a2 ++ bs) from m) with m | m
    · rw [m]; exact c.newOwn hp hop
    · exact ow a m
theorem Rel.newL {ws : List W} {us : List V} {p : Addr} (r : Rel z (ws ++ stk) (us ++ vs) env σ H) (hl : us.length = ws.length) (t : ws.all tree = true) (hp : H p = none) (hop : z.op = false) : Rel z (.ol ws :: stk) (.ref p :: vs) env σ (upd H p (.lst us)) := r.row hl t hp hop (k := .l)
theorem Rel.newT {ws : List W} {us : List V} {p : Addr} (r : Rel z (ws ++ stk) (us ++ vs) env σ H) (hl : us.length = ws.length) (t : ws.all tree = true) (hp : H p = none) (hop : z.op = false) : Rel z (.ot ws :: stk) (.ref p :: vs) env σ (upd H p (.tup us)) := r.row hl t hp hop (k := .t)
/-- data that stands in the heap, as a new row of data (of a list read) -/
theorem Rel.pushRd (r : Rel z stk vs env σ H) {x : D} {G : Hp} (g0 : Rep z G x v) (hg : ∀ G', Core z G' H → Same G G') : Rel z (.d x :: stk) (v :: vs) env σ H := by
  obtain ⟨G', as, bs, rs, re, nd, ow, c⟩ := r
  exact ⟨G', as, bs, ⟨v, vs, [], as, rfl, rfl, ⟨rfl, Rep.mono (hg G' c) g0⟩, rs⟩, re, nd, ow, c⟩
end
end DL

/-! DL4: the relation at a known frozen part; turning the stack; rows of data. -/
namespace DL
open PySem PySem.Spec
open PyProof.Rows L2
def RelG (z : Z) (G : Hp) (stk : List W) (vs : List V) (env : Env) (σ : St) (H : Hp) : Prop :=
  ∃ as bs, RepSt z G H σ stk vs as ∧ RepE z G H env σ bs ∧ (as ++ bs).Nodup ∧ (∀ a ∈ as ++ bs, G a = none ∧ z.Own a) ∧ Core z G H
section
variable {z : Z} {stk s1 s2 : List W} {vs u1 u2 : List V} {env : Env} {σ : St} {G H : Hp} {w : W} {v : V}
theorem Rel.g (r : Rel z stk vs env σ H) : ∃ G, RelG z G stk vs env σ H := r
theorem RelG.r (r : RelG z G stk vs env σ H) : Rel z stk vs env σ H := ⟨G, r⟩
theorem RelG.core (r : RelG z G stk vs env σ H) : Core z G H := let ⟨_, _, _, _, _, _, c⟩ := r; c
theorem RelG.view (r : RelG z G (w :: stk) (v :: vs) env σ H) {w' : W} (h : peek env w = some w') : ∃ as, RepW z G H w' v as := by
  obtain ⟨as, bs, ⟨v', vs', a1, a2, q, q2, r1, r2⟩, re, nd, ow, c⟩ := r
  cases q
  cases w with
  | at_ i =>
    obtain ⟨_, e⟩ := r1
    have h2 : env[i]? = some (some w') := by
      have h3 : (match env[i]? with | some (some w) => some w | _ => none) = some w' := h
      cases e1 : env[i]? with
      | none => rw [e1] at h3; cases h3
      | some o =>
        rw [e1] at h3
        cases o with
        | none => cases h3
        | some w1 => cases h3; rfl
    obtain ⟨v2, b1, bi, b2, e2, _, h3, _⟩ := re.at_ h2
    rw [e] at e2
    cases e2
    exact ⟨bi, h3⟩
  | hole => cases h
  | _ => cases h; exact ⟨a1, r1⟩
theorem RepSt.ds : ∀ {xs : List D} {us : List V}, Reps z G xs us → RepSt z G H σ (xs.map W.d) us []
  | [], _, q => ⟨q, rfl⟩
  | _ :: _, _, ⟨v, vs, q, r, r2⟩ => ⟨v, vs, [], [], q, rfl, ⟨rfl, r⟩, RepSt.ds r2⟩
theorem RelG.push (r : RelG z G stk vs env σ H) {xs : List D} {us : List V} (h : Reps z G xs us) : RelG z G (xs.map W.d ++ stk) (us ++ vs) env σ H := by
  obtain ⟨as, bs, rs, re, nd, ow, c⟩ := r
  exact ⟨as, bs, (RepSt.ds h).app rs, re, nd, ow, c⟩
theorem RelG.push1 (r : RelG z G stk vs env σ H) {x : D} {u : V} (h : Rep z G x u) : RelG z G (W.d x :: stk) (u :: vs) env σ H := r.push (xs := [x]) (us := [u]) ⟨u, [], rfl, h, rfl⟩
/-- the stack turned: what lies under s1 comes up -/
theorem Rel.up (r : Rel z (s1 ++ w :: s2) (u1 ++ v :: u2) env σ H) (hl : u1.length = s1.length) : Rel z (w :: (s1 ++ s2)) (v :: (u1 ++ u2)) env σ H := by
  obtain ⟨G, as, bs, rs, re, nd, ow, c⟩ := r
  obtain ⟨v1, v2, a1, a2, q, q2, r1, r2⟩ := rs.split
  have len : ∀ {ws : List W} {vs : List V} {as : List Addr}, RepSt z G H σ ws vs as → vs.length = ws.length := by
    intro ws
    induction ws with
    | nil => intro vs as h; rw [h.1]; rfl
    | cons w ws ih => intro vs as h; obtain ⟨_, vs', _, _, q, _, _, r⟩ := h; rw [q]; exact congrArg Nat.succ (ih r)
  obtain ⟨e1, e2⟩ := List.append_inj q (by rw [hl, len r1])
  subst e1 q2
  obtain ⟨v', vs', b1, b2, q, q2, rw1, rs2⟩ := r2
  cases e2
  cases q; subst q2
  have pm : List.Perm (a1 ++ (b1 ++ b2) ++ bs) (b1 ++ (a1 ++ b2) ++ bs) := (List.perm_append_comm_assoc a1 b1 b2).append_right bs
  exact ⟨G, b1 ++ (a1 ++ b2), bs, ⟨_, _, b1, a1 ++ b2, rfl, rfl, rw1, r1.app rs2⟩, re, (pm.nodup_iff).mp nd, fun a m => ow a ((pm.mem_iff).mpr m), c⟩
theorem Rel.down (r : Rel z (w :: (s1 ++ s2)) (v :: (u1 ++ u2)) env σ H) (hl : u1.length = s1.length) : Rel z (s1 ++ w :: s2) (u1 ++ v :: u2) env σ H := by
  obtain ⟨G, as, bs, ⟨v', vs', b1, b2, q, q2, rw1, rs2⟩, re, nd, ow, c⟩ := r
  cases q; subst q2
  obtain ⟨v1, v2, a1, a2, q, q2, r1, r2⟩ := rs2.split
  have len : ∀ {ws : List W} {vs : List V} {as : List Addr}, RepSt z G H σ ws vs as → vs.length = ws.length := by
    intro ws
    induction ws with
    | nil => intro vs as h; rw [h.1]; rfl
    | cons w ws ih => intro vs as h; obtain ⟨_, vs', _, _, q, _, _, r⟩ := h; rw [q]; exact congrArg Nat.succ (ih r)
  obtain ⟨e1, e2⟩ := List.append_inj q (by rw [hl, len r1])
  subst e1 e2 q2
  have pm : List.Perm (b1 ++ (a1 ++ a2) ++ bs) (a1 ++ (b1 ++ a2) ++ bs) := (List.perm_append_comm_assoc b1 a1 a2).append_right bs
  exact ⟨G, a1 ++ (b1 ++ a2), bs, r1.app ⟨_, _, b1, a2, rfl, rfl, rw1, r2⟩, re, (pm.nodup_iff).mp nd, fun a m => ow a ((pm.mem_iff).mpr m), c⟩
theorem Rel.swap {w2 : W} {v2 : V} (r : Rel z (w :: w2 :: stk) (v :: v2 :: vs) env σ H) : Rel z (w2 :: w :: stk) (v2 :: v :: vs) env σ H := Rel.up (s1 := [w]) (u1 := [v]) r rfl
theorem RepSt.len : ∀ {ws : List W} {vs : List V} {as : List Addr}, RepSt z G H σ ws vs as → vs.length = ws.length
  | [], _, _, h => by rw [h.1]; rfl
  | _ :: _, _, _, ⟨_, vs', _, _, q, _, _, r⟩ => by rw [q]; exact congrArg Nat.succ (RepSt.len r)
theorem Rel.slen (r : Rel z stk vs env σ H) : vs.length = stk.length := let ⟨_, _, _, rs, _⟩ := r; rs.len
theorem Rel.drop (r : Rel z (s1 ++ s2) (u1 ++ u2) env σ H) (hl : u1.length = s1.length) : Rel z s2 u2 env σ H := by
  induction s1 generalizing u1 with
  | nil =>
    cases u1 with
    | nil => exact r
    | cons _ _ => cases hl
  | cons w s1 ih =>
    cases u1 with
    | nil => cases hl
    | cons v u1 => exact ih (Rel.pop r) (Nat.succ.inj hl)

/-! a row of data -/
def dsOf : List W → Option (List D)
  | [] => some []
  | .d x :: ws => (dsOf ws).map (x :: ·)
  | _ => none
def flat (w : W) : Option (SeqK × List D) := match w with
  | .d (.lst xs) => some (.l, xs)
  | .d (.klst xs) => some (.r, xs)
  | .d (.tup xs) => some (.t, xs)
  | .ol ws => (dsOf ws).map fun xs => (.l, xs)
  | .ot ws => (dsOf ws).map fun xs => (.t, xs)
  | _ => none
theorem dsOf_eq : ∀ {ws : List W} {xs : List D}, dsOf ws = some xs → ws = xs.map .d
  | [], _, h => by cases h; rfl
  | .d x :: ws, xs, h => by
    have h : (dsOf ws).map (x :: ·) = some xs := h
    cases e : dsOf ws with
    | none => rw [e] at h; cases h
    | some ys => rw [e] at h; cases h; rw [dsOf_eq e]; rfl
theorem dsOf_map : ∀ {xs : List D}, dsOf (xs.map .d) = some xs
  | [] => rfl
  | x :: xs => by show (dsOf (xs.map .d)).map (x :: ·) = _; rw [dsOf_map]; rfl
theorem repws_ds : ∀ {xs : List D} {vs : List V} {as : List Addr}, RepWs z G H (xs.map .d) vs as → Reps z G xs vs
  | [], _, _, h => h.1
  | _ :: _, _, _, ⟨v, vs', _, _, q, _, r, r2⟩ => ⟨v, vs', q, r.2, repws_ds r2⟩
theorem reps_ws : ∀ {xs : List D} {vs : List V}, Reps z G xs vs → RepWs z G H (xs.map .d) vs []
  | [], _, h => ⟨h, rfl⟩
  | _ :: _, _, ⟨v, vs', q, r, r2⟩ => ⟨v, vs', [], [], q, rfl, ⟨rfl, r⟩, reps_ws r2⟩
theorem flat_seq {k : SeqK} {xs : List D} (h : flat w = some (k, xs)) : seqW w = some (k, xs.map .d) := by
  cases w with
  | d x => cases x <;> first | (cases h; rfl) | cases h
  | ol ws =>
    have h : (dsOf ws).map (fun xs => (SeqK.l, xs)) = some (k, xs) := h
    cases e : dsOf ws with
    | none => rw [e] at h; cases h
    | some ys => rw [e] at h; cases h; rw [dsOf_eq e]; rfl
  | ot ws =>
    have h : (dsOf ws).map (fun xs => (SeqK.t, xs)) = some (k, xs) := h
    cases e : dsOf ws with
    | none => rw [e] at h; cases h
    | some ys => rw [e] at h; cases h; rw [dsOf_eq e]; rfl
  | _ => cases h
theorem RepW.flat {k : SeqK} {xs : List D} {as : List Addr} (g : Same G H) (r : RepW z G H w v as) (h : flat w = some (k, xs)) : ∃ a us, v = .ref a ∧ SqK z.K H a us k ∧ Reps z G xs us := by
  cases w with
  | d x =>
    obtain ⟨_, r⟩ := r
    cases x with
    | lst xs => cases h; obtain ⟨a, us, q, s, r⟩ := r; exact ⟨a, us, q, g _ _ s, r⟩
    | klst xs => cases h; obtain ⟨a, us, q, s, r⟩ := r; exact ⟨a, us, q, g.seq s, r⟩
    | tup xs => cases h; obtain ⟨a, us, q, s, r⟩ := r; exact ⟨a, us, q, Same.tup g s, r⟩
    | _ => cases h
  | ol ws =>
    have h : (dsOf ws).map (fun xs => (SeqK.l, xs)) = some (k, xs) := h
    cases e : dsOf ws with
    | none => rw [e] at h; cases h
    | some ys => rw [e] at h; cases h; rw [dsOf_eq e] at r; obtain ⟨a, us, as', q, _, e, r⟩ := r; exact ⟨a, us, q, e, repws_ds r⟩
  | ot ws =>
    have h : (dsOf ws).map (fun xs => (SeqK.t, xs)) = some (k, xs) := h
    cases e : dsOf ws with
    | none => rw [e] at h; cases h
    | some ys => rw [e] at h; cases h; rw [dsOf_eq e] at r; obtain ⟨a, us, as', q, _, e, r⟩ := r; exact ⟨a, us, q, SqT.of e, repws_ds r⟩
  | _ => cases h
/-- a row of data read; what is not flat is frozen first -/
def rowD (w : W) (env : Env) (k : SeqK → List D → Env → Prop) : Prop := match (peek env w).bind flat with
  | some (kd, xs) => k kd xs env
  | none => useD w env fun x env' => match x with
    | .lst xs => k .l xs env'
    | .klst xs => k .r xs env'
    | .tup xs => k .t xs env'
    | _ => False
/-- the row stands in the heap; its items lie on the stack -/
theorem Rel.rowD {k : SeqK → List D → Env → Prop} (r : Rel z (w :: stk) (v :: vs) env σ H) (u : DL.rowD w env k) :
    ∃ kd xs env' a us, v = .ref a ∧ SqK z.K H a us kd ∧ us.length = xs.length ∧ Rel z (xs.map .d ++ stk) (us ++ vs) env' σ H ∧ k kd xs env' := by
  have fin : ∀ {w : W} {w' : W} {kd : SeqK} {xs : List D} {env : Env}, Rel z (w :: stk) (v :: vs) env σ H → peek env w = some w' → flat w' = some (kd, xs) → ∃ a us, v = .ref a ∧ SqK z.K H a us kd ∧ us.length = xs.length ∧ Rel z (xs.map .d ++ stk) (us ++ vs) env σ H := fun {w w' kd xs env} r h1 h2 => by
    obtain ⟨G, rg⟩ := r
    obtain ⟨as, rw1⟩ := RelG.view rg h1
    obtain ⟨a, us, q, s, rp⟩ := rw1.flat (RelG.core rg).gh h2
    have r2 : RelG z G (w :: (xs.map .d ++ stk)) (v :: (us ++ vs)) env σ H := by
      have r3 := RelG.push rg rp
      have l : us.length = (xs.map W.d).length := by rw [List.length_map]; have := (reps_rds (H := G) (Same.refl G) rp).len; rw [List.length_map] at this; exact this
      obtain ⟨as, bs, rs, re, nd, ow, c⟩ := r3
      obtain ⟨v1, v2, a1, a2, q, q2, r1, r2⟩ := rs.split
      obtain ⟨e1, e2⟩ := List.append_inj q (by rw [l, r1.len])
      subst e1 q2
      obtain ⟨v', vs', b1, b2, q, q2, rw1, rs2⟩ := r2
      cases e2
      cases q; subst q2
      have pm : List.Perm (a1 ++ (b1 ++ b2) ++ bs) (b1 ++ (a1 ++ b2) ++ bs) := (List.perm_append_comm_assoc a1 b1 b2).append_right bs
      exact ⟨b1 ++ (a1 ++ b2), bs, ⟨_, _, b1, a1 ++ b2, rfl, rfl, rw1, r1.app rs2⟩, re, (pm.nodup_iff).mp nd, fun a m => ow a ((pm.mem_iff).mpr m), c⟩
    have l : us.length = xs.length := by have := (reps_rds (H := G) (Same.refl G) rp).len; rw [List.length_map] at this; exact this
    exact ⟨a, us, q, s, l, Rel.pop ⟨G, r2⟩⟩
  unfold DL.rowD at u
  cases e : (peek env w).bind flat with
  | some p =>
    obtain ⟨kd, xs⟩ := p
    rw [e] at u
    cases e1 : peek env w with
    | none => rw [e1] at e; cases e
    | some w' =>
      rw [e1] at e
      obtain ⟨a, us, q, s, l, r2⟩ := fin r e1 e
      exact ⟨kd, xs, env, a, us, q, s, l, r2, u⟩
  | none =>
    rw [e] at u
    obtain ⟨x, env', r2, hk⟩ := r.useD u
    cases x with
    | lst xs => obtain ⟨a, us, q, s, l, r3⟩ := fin r2 rfl rfl; exact ⟨.l, xs, env', a, us, q, s, l, r3, hk⟩
    | klst xs => obtain ⟨a, us, q, s, l, r3⟩ := fin r2 rfl rfl; exact ⟨.r, xs, env', a, us, q, s, l, r3, hk⟩
    | tup xs => obtain ⟨a, us, q, s, l, r3⟩ := fin r2 rfl rfl; exact ⟨.t, xs, env', a, us, q, s, l, r3, hk⟩
    | _ => exact hk.elim
end
end DL

/-! DL5: judgements over plain state; expressions and tests. -/
namespace DL
open PySem PySem.Spec
open PyProof.Rows L2
/-- an error: its class, its attributes -/
structure Exn where
  c : String
  fs : List (String × D)
abbrev DK := W → Env → Prop
abbrev XC := Exn → Env → Prop
abbrev DTE := Env → DK → XC → Prop
abbrev DTT := Env → (Bool → Env → Prop) → XC → Prop
abbrev DTA := Env → (List W → Env → Prop) → XC → Prop
/-- the error classes of the package -/
def ERR : List String := ["CornerError", "BadLine", "Strange", "TooMany", "BadTable", "NotAssociative", "BadKind", "BadLot", "NotClosed", "NotShown", "NoLine", "BadShape", "BadNumber", "BadCount", "BadBlock", "BadLetter", "NotKept", "Gap", "Bare", "NothingLeft", "BadCut", "BadOrder", "BadTree", "Knotted", "BadHead", "NotOne", "Waiting", "Differs", "BadPaper", "NothingBack"]
/-- the attributes of errors -/
def XFLD : List String := ["bad_word", "strange_name", "limit", "triple", "lacking_kind", "bad_line", "due_count", "letter_place", "unkept", "gap_place", "bare_line", "bad_cut", "knotted_cuts", "head_name", "witness_corner", "witness_kind", "witness_letters", "lacking_pieces", "piece_number", "paper_line"]
def subX (c y : String) : Bool := c == y || y == "CornerError"
/-- what the written part says of the error class c, at C -/
structure ErF (K : PySem.W.Frag) (mg : Str → Option Value) (c : String) (C : Addr) : Prop where
  cl : (PySem.W.clsIn K C).isSome = true
  hga : PySem.W.findIn K (.ref C) "__getattribute__" = some (some (.builtin "BaseException.__getattribute__"))
  hgt : PySem.W.findIn K (.ref C) "__getattr__" = some none
  hsub : PySem.W.subIn K (.ref C) (.type "BaseException") = some true
  ha : PySem.W.findIn K (.ref C) "__class__" = some (some (.builtin "object.__class__"))
  hn : PySem.W.specialIn K (.builtin "object.__class__") "__get__" = some (some (.builtin "getset_descriptor.__get__"))
  htk : PySem.W.takesIn K (.builtin "object.__class__") = some true
  hm : PySem.W.mroIn K C (.type "object") = some true
  hd : PySem.W.hasDictIn K C = true
  ty : PySem.W.typeIn K (.ref C) = some (.type "type")
  kp : PySem.W.keepIn K (.ref C) = true
  na : ∀ f ∈ XFLD, PySem.W.findIn K (.ref C) (Str.ofString f) = some none
  ve : PySem.W.kitOne K (.ref C) (.type "ValueError") = some true
  is : ∀ y ∈ ERR, ∀ Y, mg (Str.ofString y) = some (.ref Y) → PySem.W.kitOne K (.ref C) (.ref Y) = some (subX c y)
  ex : ∀ y ∈ ERR, ∀ Y, mg (Str.ofString y) = some (.ref Y) → PySem.W.exmOne K (.ref C) (.ref Y) = some (subX c y)
def RelX (z : Z) (stk : List W) (vs : List V) (x : Exn) (cls : Value) (d : Option Addr) (env : Env) (σ : St) (H : Hp) : Prop :=
  ∃ G C, RelG z G stk vs env σ H ∧ (z.mg (Str.ofString x.c) = some (.ref C) ∧ ErF z.K z.mg x.c C) ∧ cls = .ref C ∧
    (match x.fs with | [] => d = none | _ => ∃ dx us, d = some dx ∧ H dx = some (.xd us) ∧ RepF z G x.fs us)
/-- the caught error i is the pinned object of pn -/
theorem RelX.drop {z : Z} {s1 s2 : List W} {u1 u2 : List V} {x : Exn} {cls : Value} {d : Option Addr} {env : Env} {σ : St} {H : Hp} (r : RelX z (s1 ++ s2) (u1 ++ u2) x cls d env σ H) (hl : u1.length = s1.length) : RelX z s2 u2 x cls d env σ H := by
  obtain ⟨G, C, ⟨as, bs, rs, re, nd, ow, c⟩, h⟩ := r
  obtain ⟨v1, v2, a1, a2, e1, e2, q1, q2⟩ := rs.split
  obtain ⟨e3, e4⟩ := List.append_inj e1 (by rw [hl, q1.len])
  subst e3 e4 e2
  have sub : List.Sublist (a2 ++ bs) (a1 ++ a2 ++ bs) := by rw [List.append_assoc]; exact List.sublist_append_right _ _
  exact ⟨G, C, ⟨a2, bs, q2, re, nodup_sub sub nd, fun a m => ow a (sub.subset m), c⟩, h⟩
theorem RelX.pop {z : Z} {w : W} {v : V} {stk : List W} {vs : List V} {x : Exn} {cls : Value} {d : Option Addr} {env : Env} {σ : St} {H : Hp} (r : RelX z (w :: stk) (v :: vs) x cls d env σ H) : RelX z stk vs x cls d env σ H := RelX.drop (s1 := [w]) (u1 := [v]) r rfl
structure HotO (K : PySem.W.Frag) (mg : Str → Option Value) (i : ExI) (oe : Obj) (C : Addr) : Prop where
  mc : mg (Str.ofString i.c) = some (.ref C)
  er : ErF K mg i.c C
  zn : L2N.Zn (.ref C) i.d oe
  fl : ∃ vs, oe.data = .fields vs
  dn : i.d = none → i.fs = []
def HotI (K : PySem.W.Frag) (mg : Str → Option Value) (A : Around) (pn : List (Addr × Obj)) (i : ExI) : Prop := A.handled = some (.ref i.a) ∧ ∃ oe C, (i.a, oe) ∈ pn ∧ HotO K mg i oe C
structure Okz (X : Cx) (z : Z) : Prop where
  k : z.K = X.K
  m : z.mg = X.mg
  op : z.op = false
  cold : X.calm = true → z.ex = none ∧ z.lx = false
  hot : z.lx = true → ∀ i, z.ex = some i → HotI X.K X.mg X.A X.pn i
section
variable (X : Cx)
/-- e's reading over plain state is t -/
def DE (e : Expr) (t : DTE) : Prop := ∀ Wx, L2N.Takes X Wx → ∃ te, PE X e te ∧ ∀ z stk vs env σ H (Q : VK) (k : DK) (kx : XC), Okz X z → Rel z stk vs env σ H → t env k kx →
  (∀ w env' v H', Rel z (w :: stk) (v :: vs) env' σ H' → k w env' → Q v H') → (∀ x env' cls d H', RelX z stk vs x cls d env' σ H' → kx x env' → Wx cls d σ H') → te σ H Q
def DT (e : Expr) (t : DTT) : Prop := ∀ Wx, L2N.Takes X Wx → ∃ te, PT X e te ∧ ∀ z stk vs env σ H (Q : Bool → Hp → Prop) (k : Bool → Env → Prop) (kx : XC), Okz X z → Rel z stk vs env σ H → t env k kx →
  (∀ b env' H', Rel z stk vs env' σ H' → k b env' → Q b H') → (∀ x env' cls d H', RelX z stk vs x cls d env' σ H' → kx x env' → Wx cls d σ H') → te σ H Q
/-- .. whatever the whole is (and, or) -/
def DW (e : Expr) (t : DTT) : Prop := ∀ Wx, L2N.Takes X Wx → ∃ te, PW X e te ∧ ∀ z stk vs env σ H (Q : Bool → Hp → Prop) (k : Bool → Env → Prop) (kx : XC), Okz X z → Rel z stk vs env σ H → t env k kx →
  (∀ b env' H', Rel z stk vs env' σ H' → k b env' → Q b H') → (∀ x env' cls d H', RelX z stk vs x cls d env' σ H' → kx x env' → Wx cls d σ H') → te σ H Q
def DA (es : List Expr) (t : DTA) : Prop := ∀ Wx, L2N.Takes X Wx → ∃ te, PA X es te ∧ ∀ z stk vs env σ H (Q : List V → Hp → Prop) (k : List W → Env → Prop) (kx : XC), Okz X z → Rel z stk vs env σ H → t env k kx →
  (∀ ws env' us H', us.length = ws.length → Rel z (ws ++ stk) (us ++ vs) env' σ H' → k ws env' → Q us H') → (∀ x env' cls d H', RelX z stk vs x cls d env' σ H' → kx x env' → Wx cls d σ H') → te σ H Q
end

/-! values at hand -/
def dVar (i : Nat) : DTE := fun env k _ => match env[i]? with
  | some (some _) => k (.at_ i) env
  | _ => False
def dMov (i : Nat) : DTE := fun env k _ => match env[i]? with
  | some (some w) => k w (env.set i none)
  | _ => False
def dC (x : D) : DTE := fun env k _ => k (.d x) env
section
variable {X : Cx} {e a b : Expr} {ta tb : DTE} {pos : Pos}
theorem de_var {i : Nat} {x : Str} (hN : X.N[i]? = some x) (hv : Vis X.env.scope x) (hd : (x == ("__debug__" : Str)) = false) (hcd : (x == ("__classdict__" : Str)) = false) : DE X (.Name x pos) (dVar i) := fun Wx tk => by
  refine ⟨_, pe_var hN hv hd hcd, fun z stk vs env σ H Q k kx ok r t q qx => ?_⟩
  unfold dVar at t
  cases h : env[i]? with
  | none => simp only [h] at t
  | some o =>
    cases o with
    | none => simp only [h] at t
    | some w =>
      simp only [h] at t
      obtain ⟨v, e⟩ := r.slot h
      exact ⟨v, e, q _ _ _ _ (r.pushAt e) t⟩
theorem de_mov {i : Nat} {x : Str} (hN : X.N[i]? = some x) (hv : Vis X.env.scope x) (hd : (x == ("__debug__" : Str)) = false) (hcd : (x == ("__classdict__" : Str)) = false) : DE X (.Name x pos) (dMov i) := fun Wx tk => by
  refine ⟨_, pe_var hN hv hd hcd, fun z stk vs env σ H Q k kx ok r t q qx => ?_⟩
  unfold dMov at t
  cases h : env[i]? with
  | none => simp only [h] at t
  | some o =>
    cases o with
    | none => simp only [h] at t
    | some w =>
      simp only [h] at t
      obtain ⟨G, as, bs, rs, re, nd, ow, c⟩ := r
      obtain ⟨v, b1, bi, b2, h1, h2, h3, _, _, h6⟩ := re.at_ h
      subst h2
      refine ⟨v, h1, q _ _ _ _ ⟨G, bi ++ as, b1 ++ b2, ⟨v, vs, bi, as, rfl, rfl, .of h3, rs⟩, h6 G H (Same.refl _) (fun _ _ => rfl), ?_, fun a m => ow a ?_, c⟩ t⟩
      · have pm : List.Perm (as ++ (b1 ++ (bi ++ b2))) (bi ++ as ++ (b1 ++ b2)) := by
          refine ((List.perm_append_comm_assoc b1 bi b2).append_left as).trans ?_
          refine (List.perm_append_comm_assoc as bi (b1 ++ b2)).trans ?_
          rw [List.append_assoc]
        exact (pm.nodup_iff).mp nd
      · simp only [List.mem_append] at m ⊢
        rcases m with (m | m) | (m | m)
        · exact .inr (.inr (.inl m))
        · exact .inl m
        · exact .inr (.inl m)
        · exact .inr (.inr (.inr m))
/-- what stands for itself in every heap -/
def Fixed (z : Z) (x : D) (v : V) : Prop := ∀ G, Rep z G x v
theorem de_c {x : D} {v : V} (h : PE X e (tC v)) (f : ∀ z, Okz X z → Fixed z x v) : DE X e (dC x) := fun Wx tk =>
  ⟨_, h, fun z stk vs env σ H Q k kx ok r t q qx => q _ _ _ _ (r.push fun G _ _ _ => f z ok G) t⟩
theorem de_int {i j} : DE X (.Constant (.int i) j pos) (dC (.int i)) := de_c pe_int fun _ _ _ => rfl
theorem de_bl {i j} : DE X (.Constant (.bool i) j pos) (dC (.bl i)) := de_c pe_bl fun _ _ _ => rfl
theorem de_non {j} : DE X (.Constant .none j pos) (dC .non) := de_c pe_non fun _ _ _ => rfl
theorem de_str {x : Str} {j} : DE X (.Constant (.str x) j pos) (dC (.str x.cps.toList)) := de_c pe_str fun _ _ _ => by
  show V.str x = V.str ⟨x.cps.toList.toArray⟩
  cases x; rfl
/-- a name of the module -/
theorem de_glob {x : Str} {d : D} {u : Value} {v : V} (hg : Gl X x) (hm : X.mg x = some u) (r : RelV v u) (f : ∀ z, Okz X z → Fixed z d v) (hd : (x == ("__debug__" : Str)) = false) : DE X (.Name x pos) (dC d) := de_c (pe_glob hg hm r hd) f
theorem de_bltn {x : Str} {n : String} (hg : Gl X x) (hm : X.mg x = none) (hv : bootBuiltins x = some (.type n)) (hn : x ≠ "__name__") (hd : (x == ("__debug__" : Str)) = false) : DE X (.Name x pos) (dC (.ty n)) := de_c (pe_bltn (v := .ty n) hg hm hv rfl hn hd) fun _ _ _ => rfl

/-! two-place operations -/
abbrev DOp := W → W → Env → DK → Prop
def dOp (s : DOp) (ta tb : DTE) : DTE := fun env k kx => ta env (fun wa e1 => tb e1 (fun wb e2 => s wa wb e2 k) kx) kx
/-- s, by values: the right one on top -/
def OpD (X : Cx) (r : R2) (s : DOp) : Prop := ∀ z stk vs env σ H (Q : VK) (k : DK) wa wb va vb, Okz X z → Rel z (wb :: wa :: stk) (vb :: va :: vs) env σ H → s wa wb env k →
  (∀ w env' v H', Rel z (w :: stk) (v :: vs) env' σ H' → k w env' → Q v H') → r va vb H Q
theorem de_op {f : Expr} {r : R2} {s : DOp} (he : ∀ {ta tb : TE}, PE X a ta → PE X b tb → PE X f (tOp r ta tb)) (hs : OpD X r s) (ha : DE X a ta) (hb : DE X b tb) : DE X f (dOp s ta tb) := fun Wx tk => by
  obtain ⟨te1, p1, h1⟩ := ha Wx tk
  obtain ⟨te2, p2, h2⟩ := hb Wx tk
  refine ⟨_, he p1 p2, fun z stk vs env σ H Q k kx ok rl t q qx => ?_⟩
  refine h1 z stk vs env σ H _ _ kx ok rl t (fun w env' v H' r1 k1 => ?_) qx
  refine h2 z _ _ env' σ H' _ _ kx ok r1 k1 (fun w2 env2 v2 H2 r2 k2 => ?_) fun x e c d H' rx => qx x e c d H' rx.pop
  exact hs z stk vs env2 σ H2 Q k _ _ _ _ ok r2 k2 q
theorem OpR.or {f : Value → Value → Sem Value} {r r' : R2} (h : OpR X f r) (h' : OpR X f r') : OpR X f (fun x y H Q => r x y H Q ∨ r' x y H Q) := fun pins s σ H x y v u Q I rx ry q => q.elim (h pins s σ H x y v u Q I rx ry) (h' pins s σ H x y v u Q I rx ry)

/-! ints -/
theorem rd_int {z : Z} {H : Hp} {i : Int} {v : V} (h : Rd1 z H (.d (.int i)) v) : v = .int i := let ⟨_, _, _, _, r⟩ := h; r
theorem rd_str {z : Z} {H : Hp} {s : List Nat} {v : V} (h : Rd1 z H (.d (.str s)) v) : v = .str ⟨s.toArray⟩ := let ⟨_, _, _, _, r⟩ := h; r
theorem rd_bl {z : Z} {H : Hp} {b : Bool} {v : V} (h : Rd1 z H (.d (.bl b)) v) : v = .bl b := let ⟨_, _, _, _, r⟩ := h; r
theorem rd_non {z : Z} {H : Hp} {v : V} (h : Rd1 z H (.d .non) v) : v = .non := let ⟨_, _, _, _, r⟩ := h; r
def sInt (C : Int → Int → Prop) (g : Int → Int → Int) : DOp := fun wa wb env k => match peek env wa, peek env wb with
  | some (.d (.int i)), some (.d (.int j)) => C i j ∧ k (.d (.int (g i j))) env
  | _, _ => False
theorem sInt_elim {C : Int → Int → Prop} {g : Int → Int → Int} {wa wb : W} {env : Env} {k : DK} (h : sInt C g wa wb env k) : ∃ i j, peek env wa = some (.d (.int i)) ∧ peek env wb = some (.d (.int j)) ∧ C i j ∧ k (.d (.int (g i j))) env := by
  unfold sInt at h
  split at h
  · rename_i i j h1 h2
    exact ⟨i, j, h1, h2, h⟩
  · exact h.elim
theorem opd_int {C : Int → Int → Prop} {g : Int → Int → Int} {C' : Int → Int → Prop} {g' : Int → Int → Int} (hC : ∀ i j, C i j → C' i j) (hg : ∀ i j, C i j → g' i j = g i j) : OpD X (rI C' fun i j => .int (g' i j)) (sInt C g) := fun z stk vs env σ H Q k wa wb va vb ok r h q => by
  obtain ⟨i, j, h1, h2, hc, hk⟩ := sInt_elim h
  have e2 := rd_int (r.look h2)
  have e1 := rd_int (r.look2 h1)
  subst e1 e2
  refine ⟨i, j, rfl, rfl, hC i j hc, ?_⟩
  show Q (.int (g' i j)) H
  rw [hg i j hc]
  exact q _ _ _ _ r.pop.pop.pushInt hk
theorem opd_int0 {g : Int → Int → Int} : OpD X (rI0 fun i j => .int (g i j)) (sInt (fun _ _ => True) g) := fun z stk vs env σ H Q k wa wb va vb ok r h q => by
  obtain ⟨i, j, h1, h2, hc, hk⟩ := sInt_elim h
  have e2 := rd_int (r.look h2)
  have e1 := rd_int (r.look2 h1)
  subst e1 e2
  exact ⟨i, j, rfl, rfl, q _ _ _ _ r.pop.pop.pushInt hk⟩
/-- a product whose size is known -/
def MulFit (i j : Int) : Prop := IntMulOk i j
def PowOk (i j : Int) : Prop := 0 ≤ j ∧ (Builtin.Int.intBits i : Int) * j ≤ 2 ^ 27
def DivOk (_ j : Int) : Prop := 0 < j ∧ j < 1073741824
theorem op_mulA : OpR X (binaryOp .Mult) (rI MulFit fun i j => .int (i * j)) := opI fun _ _ _ _ _ _ _ hc q => mul_int q hc
theorem op_powA : OpR X (binaryOp .Pow) (rI PowOk fun i j => .int (i ^ j.toNat)) := opI fun _ _ _ _ _ _ _ hc q => PyProof.Rows.pow_int hc.1 hc.2 q
/-! a row joined, repeated -/
def sRows (f : SeqK → List D → SeqK → List D → Env → DK → Prop) : DOp := fun wa wb env k => rowD wb env fun kb ys e1 => rowD wa e1 fun ka xs e2 => f ka xs kb ys e2 k
/-- both rows stand in the heap; all items lie on the stack -/
theorem Rel.rows {z : Z} {stk : List W} {vs : List V} {env : Env} {σ : St} {H : Hp} {wa wb : W} {va vb : V} {f : SeqK → List D → SeqK → List D → Env → Prop} (r : Rel z (wb :: wa :: stk) (vb :: va :: vs) env σ H)
    (u : DL.rowD wb env fun kb ys e1 => DL.rowD wa e1 fun ka xs e2 => f ka xs kb ys e2) : ∃ ka xs kb ys env' a us b ts, va = .ref a ∧ SqK z.K H a us ka ∧ us.length = xs.length ∧ vb = .ref b ∧ SqK z.K H b ts kb ∧ ts.length = ys.length ∧
      Rel z ((xs ++ ys).map .d ++ stk) ((us ++ ts) ++ vs) env' σ H ∧ f ka xs kb ys env' := by
  obtain ⟨kb, ys, e1, b, ts, eb, sb, lb, r1, u1⟩ := r.rowD u
  have r2 := Rel.up (s1 := ys.map .d) (u1 := ts) r1 (by rw [List.length_map]; exact lb)
  obtain ⟨ka, xs, e2, a, us, ea, sa, la, r3, u2⟩ := r2.rowD u1
  refine ⟨ka, xs, kb, ys, e2, a, us, b, ts, ea, sa, la, eb, sb, lb, ?_, u2⟩
  rw [List.map_append, List.append_assoc, List.append_assoc]
  exact r3
def kCat (ka : SeqK) (xs : List D) (kb : SeqK) (ys : List D) (env : Env) (k : DK) : Prop := xs.length + ys.length ≤ sizeLine ∧ match ka, kb with
  | .l, .l => k (.ol ((xs ++ ys).map .d)) env
  | .t, .t => xs ≠ [] ∧ ys ≠ [] ∧ k (.ot ((xs ++ ys).map .d)) env
  | _, _ => False
theorem all_tree {xs : List D} : (xs.map W.d).all tree = true := by
  rw [List.all_map]; exact List.all_eq_true.mpr fun _ _ => rfl
def rAddA (K : PySem.W.Frag) : R2 := fun x y H Q => rI0 (fun i j => .int (i + j)) x y H Q ∨ (∃ i j, x = .str i ∧ y = .str j ∧ i.length + j.length ≤ sizeLine ∧ Q (.str (i ++ j)) H) ∨ rCat x y H Q ∨ rCatT K x y H Q
theorem op_addA : OpR X (binaryOp .Add) (rAddA X.K) := OpR.or op_add (OpR.or op_add_str (OpR.or op_cat op_catT))
def sAdd : DOp := fun wa wb env k => match peek env wa, peek env wb with
  | some (.d (.int i)), some (.d (.int j)) => k (.d (.int (i + j))) env
  | some (.d (.str s)), some (.d (.str t)) => s.length + t.length ≤ sizeLine ∧ k (.d (.str (s ++ t))) env
  | _, _ => sRows kCat wa wb env k
theorem str_app (s t : List Nat) : (⟨s.toArray⟩ : Str) ++ ⟨t.toArray⟩ = ⟨(s ++ t).toArray⟩ := by
  show Str.mk (s.toArray ++ t.toArray) = _
  rw [List.append_toArray]
theorem str_len (s : List Nat) : (⟨s.toArray⟩ : Str).length = s.length := by
  show s.toArray.size = _
  exact List.size_toArray ..
theorem opd_rows {z : Z} {stk : List W} {vs : List V} {env : Env} {σ : St} {H : Hp} {wa wb : W} {va vb : V} {Q : VK} {k : DK} (ok : Okz X z) (r : Rel z (wb :: wa :: stk) (vb :: va :: vs) env σ H) (u : sRows kCat wa wb env k)
    (q : ∀ w env' v H', Rel z (w :: stk) (v :: vs) env' σ H' → k w env' → Q v H') : rCat va vb H Q ∨ rCatT X.K va vb H Q := by
  obtain ⟨ka, xs, kb, ys, env', a, us, b, ts, ea, sa, la, eb, sb, lb, r3, hl, hk⟩ := Rel.rows (f := fun ka xs kb ys e2 => kCat ka xs kb ys e2 k) r u
  subst ea eb
  have len : (us ++ ts).length = ((xs ++ ys).map W.d).length := by rw [List.length_map, List.length_append, List.length_append, la, lb]
  cases ka <;> cases kb <;> first | exact hk.elim | skip
  · exact .inl ⟨a, b, us, ts, rfl, rfl, sa, sb, by rw [la, lb]; exact hl, fun p hp => q _ _ _ _ (r3.newL len all_tree hp ok.op) hk⟩
  · obtain ⟨h1, h2, hk⟩ := hk
    have n1 : us ≠ [] := fun e => h1 (List.eq_nil_of_length_eq_zero (by rw [← la, e]; rfl))
    have n2 : ts ≠ [] := fun e => h2 (List.eq_nil_of_length_eq_zero (by rw [← lb, e]; rfl))
    refine .inr ⟨a, b, us, ts, rfl, rfl, ok.k ▸ sa, ok.k ▸ sb, n1, by rw [la, lb]; exact hl, ?_⟩
    exact ⟨fun e => absurd e n2, fun _ p hp => q _ _ _ _ (r3.newT len all_tree hp ok.op) hk⟩
end
end DL
namespace DL
open PySem PySem.Spec
open PyProof.Rows L2
section
variable {X : Cx} {e a b : Expr} {ta tb : DTE} {pos : Pos}
theorem peek_int_str {z : Z} {H : Hp} {stk : List W} {vs : List V} {env : Env} {σ : St} {w : W} {v : V} (r : Rel z (w :: stk) (v :: vs) env σ H) : (∀ i, peek env w = some (.d (.int i)) → v = .int i) ∧ (∀ s, peek env w = some (.d (.str s)) → v = .str ⟨s.toArray⟩) :=
  ⟨fun i h => rd_int (r.look h), fun s h => rd_str (r.look h)⟩
theorem opd_add : OpD X (rAddA X.K) sAdd := fun z stk vs env σ H Q k wa wb va vb ok r h q => by
  unfold sAdd at h
  split at h
  · rename_i i j h1 h2
    have e2 := rd_int (r.look h2)
    have e1 := rd_int (r.look2 h1)
    subst e1 e2
    exact .inl ⟨i, j, rfl, rfl, q _ _ _ _ r.pop.pop.pushInt h⟩
  · rename_i i j h1 h2
    have e2 := rd_str (r.look h2)
    have e1 := rd_str (r.look2 h1)
    subst e1 e2
    refine .inr (.inl ⟨_, _, rfl, rfl, by rw [str_len, str_len]; exact h.1, ?_⟩)
    rw [str_app]
    exact q _ _ _ _ r.pop.pop.pushStr h.2
  · exact .inr (.inr (opd_rows ok r h q))
theorem de_add (ha : DE X a ta) (hb : DE X b tb) : DE X (.BinOp a .Add b pos) (dOp sAdd ta tb) := de_op (fun h h' => pe_op op_addA h h') opd_add ha hb
theorem de_sub (ha : DE X a ta) (hb : DE X b tb) : DE X (.BinOp a .Sub b pos) (dOp (sInt (fun _ _ => True) fun i j => i - j) ta tb) := de_op (fun h h' => pe_op op_sub h h') opd_int0 ha hb
theorem de_fdiv (ha : DE X a ta) (hb : DE X b tb) : DE X (.BinOp a .FloorDiv b pos) (dOp (sInt DivOk fun i j => i / j) ta tb) := de_op (fun h h' => pe_op op_fdiv h h') (opd_int (fun _ _ h => h) fun _ _ _ => rfl) ha hb
theorem de_mod (ha : DE X a ta) (hb : DE X b tb) : DE X (.BinOp a .Mod b pos) (dOp (sInt (fun _ j => 0 < j) fun i j => i % j) ta tb) := de_op (fun h h' => pe_op op_mod h h') (opd_int (fun _ _ h => h) fun _ _ _ => rfl) ha hb
theorem de_pow (ha : DE X a ta) (hb : DE X b tb) : DE X (.BinOp a .Pow b pos) (dOp (sInt PowOk fun i j => i ^ j.toNat) ta tb) := de_op (fun h h' => pe_op op_powA h h') (opd_int (fun _ _ h => h) fun _ _ _ => rfl) ha hb
theorem de_shl (ha : DE X a ta) (hb : DE X b tb) : DE X (.BinOp a .LShift b pos) (dOp (sInt CPow fun i j => i * 2 ^ j.toNat) ta tb) := de_op (fun h h' => pe_op op_shl h h') (opd_int (fun _ _ h => h) fun _ _ _ => rfl) ha hb
theorem de_shr (ha : DE X a ta) (hb : DE X b tb) : DE X (.BinOp a .RShift b pos) (dOp (sInt (fun _ j => 0 ≤ j) fun i j => i / 2 ^ j.toNat) ta tb) := de_op (fun h h' => pe_op op_shr h h') (opd_int (fun _ _ h => h) fun _ _ _ => rfl) ha hb
theorem de_band (ha : DE X a ta) (hb : DE X b tb) : DE X (.BinOp a .BitAnd b pos) (dOp (sInt (fun _ _ => True) Builtin.bitAnd) ta tb) := de_op (fun h h' => pe_op op_and h h') opd_int0 ha hb
theorem de_bor (ha : DE X a ta) (hb : DE X b tb) : DE X (.BinOp a .BitOr b pos) (dOp (sInt (fun _ _ => True) Builtin.bitOr) ta tb) := de_op (fun h h' => pe_op op_or h h') opd_int0 ha hb
theorem de_bxor (ha : DE X a ta) (hb : DE X b tb) : DE X (.BinOp a .BitXor b pos) (dOp (sInt (fun _ _ => True) Builtin.bitXor) ta tb) := de_op (fun h h' => pe_op op_xor h h') opd_int0 ha hb

/-! times: ints, a text or a list repeated -/
def reps (s : List Nat) (n : Nat) : List Nat := (List.replicate n s).flatten
theorem reps_len (s : List Nat) (n : Nat) : (reps s n).length = s.length * n := by
  unfold reps
  induction n with
  | zero => simp
  | succ n ih => rw [List.replicate_succ, List.flatten_cons, List.length_append, ih, Nat.mul_succ, Nat.add_comm]
def RepOk (m : Nat) (n : Int) : Prop := -(2 ^ 63) ≤ n ∧ n < 2 ^ 63 ∧ m * n.toNat ≤ sizeLine
theorem foldl_app (s : Array Nat) : ∀ (n : Nat) (acc : Array Nat), ((List.replicate n s).foldl (· ++ ·) acc).toList = acc.toList ++ (List.replicate n s.toList).flatten
  | 0, acc => by simp
  | n + 1, acc => by
    rw [List.replicate_succ, List.foldl_cons, foldl_app s n, List.replicate_succ, List.flatten_cons, Array.toList_append, List.append_assoc]
theorem op_repS : OpR X (binaryOp .Mult) (fun x y H Q => ∃ (s : List Nat) (n : Int), x = .str ⟨s.toArray⟩ ∧ y = .int n ∧ RepOk s.length n ∧ Q (.str ⟨(reps s n.toNat).toArray⟩) H) := by
  intro pins s σ H x y v u Q I rx ry h
  obtain ⟨z, n, rfl, rfl, ⟨h1, h2, h3⟩, q⟩ := h
  obtain ⟨t, rfl⟩ := rx
  obtain ⟨t', rfl⟩ := ry
  have hs : sizeLine = 16777216 := sizeLine_eq
  have hl : (⟨z.toArray⟩ : Str).length = z.length := str_len z
  have hprod : ¬ n < 1 → (z.length : Int) * n ≤ 16777216 := fun hn => by
    have e : (n.toNat : Int) = n := Int.toNat_of_nonneg (by omega)
    have : ((z.length * n.toNat : Nat) : Int) ≤ 16777216 := by omega
    rw [Int.natCast_mul, e] at this
    exact this
  refine PySem.SB.mul ⟨?_, fun hn _ => ?_, fun hn _ => ?_⟩ fun t2 k => ?_
  · rw [decide_eq_false (by omega), decide_eq_false (by omega)]; rfl
  · rw [hl]
    have hd : (z.length : Int) ≤ (2 ^ 63 - 1) / n := Int.le_ediv_of_mul_le (by omega) (Int.le_trans (hprod hn) (by decide))
    omega
  · rw [hl]
    exact decide_eq_false (by omega)
  · refine ⟨.str ⟨(reps z n.toNat).toArray⟩, H, ?_, ⟨t2, ?_⟩, q⟩
    · exact I.tok _
    · congr 1
      unfold Txt.mul
      by_cases hn : n < 1
      · rw [if_pos hn]
        have : n.toNat = 0 := by omega
        rw [this]; rfl
      · rw [if_neg hn]
        split
        · rename_i h4
          rcases Bool.or_eq_true_iff.mp h4 with h4 | h4
          · have : n.toNat = 1 := by have := eq_of_beq h4; omega
            rw [this]; unfold reps; simp
          · have h5 : z.length = 0 := by rw [← hl]; exact eq_of_beq h4
            have : z = [] := List.eq_nil_of_length_eq_zero h5
            subst this
            have h6 : reps [] n.toNat = [] := List.eq_nil_of_length_eq_zero (by rw [reps_len]; simp)
            rw [h6]
        · have e := foldl_app z.toArray n.toNat #[]
          have e2 : (List.replicate n.toNat z.toArray).foldl (· ++ ·) #[] = ((List.replicate n.toNat z.toArray).foldl (· ++ ·) #[]).toList.toArray := by simp
          rw [e2, e]
          simp [reps]
end
end DL

/-! DL6: times, comparisons, truth, and, or, not, displays, subscripts, slices. -/
namespace DL
open PySem PySem.Spec
open PyProof.Rows L2
section
variable {X : Cx} {e a b c : Expr} {ta tb tc : DTE} {pos : Pos}
def rMulA : R2 := fun x y H Q => rI MulFit (fun i j => .int (i * j)) x y H Q ∨ (∃ (s : List Nat) (n : Int), x = .str ⟨s.toArray⟩ ∧ y = .int n ∧ RepOk s.length n ∧ Q (.str ⟨(reps s n.toNat).toArray⟩) H) ∨ rRep x y H Q
theorem op_mulAll : OpR X (binaryOp .Mult) rMulA := OpR.or op_mulA (OpR.or op_repS op_rep)
def repsD (xs : List D) (n : Nat) : List D := (List.replicate n xs).flatten
def sMul : DOp := fun wa wb env k => match peek env wb with
  | some (.d (.int n)) => match peek env wa with
    | some (.d (.int i)) => MulFit i n ∧ k (.d (.int (i * n))) env
    | some (.d (.str s)) => RepOk s.length n ∧ k (.d (.str (reps s n.toNat))) env
    | _ => rowD wa env fun ka xs e1 => ka = .l ∧ RepOk xs.length n ∧ k (.ol ((repsD xs n.toNat).map .d)) e1
  | _ => False
theorem reps_append {z : Z} {G : Hp} : ∀ {xs ys : List D} {us ts : List V}, Reps z G xs us → Reps z G ys ts → Reps z G (xs ++ ys) (us ++ ts)
  | [], _, _, _, q, r => by cases q; exact r
  | _ :: _, _, _, _, ⟨v, vs, q, r, r2⟩, r' => by subst q; exact ⟨v, _, rfl, r, reps_append r2 r'⟩
theorem reps_rep {z : Z} {G : Hp} {xs : List D} {us : List V} (r : Reps z G xs us) : ∀ n, Reps z G (List.replicate n xs).flatten (List.replicate n us).flatten
  | 0 => rfl
  | n + 1 => by rw [List.replicate_succ, List.replicate_succ, List.flatten_cons, List.flatten_cons]; exact reps_append r (reps_rep r n)
/-- the data on top of the stack, as they lie in a frozen part -/
theorem Rel.ds {z : Z} {stk : List W} {vs : List V} {env : Env} {σ : St} {H : Hp} {xs : List D} {us : List V} (r : Rel z (xs.map .d ++ stk) (us ++ vs) env σ H) (hl : us.length = xs.length) : ∃ G, RelG z G stk vs env σ H ∧ Reps z G xs us := by
  obtain ⟨G, as, bs, rs, re, nd, ow, c⟩ := r
  obtain ⟨v1, v2, a1, a2, q, q2, r1, r2⟩ := rs.split
  obtain ⟨e1, e2⟩ := List.append_inj q (by rw [hl, r1.len, List.length_map])
  subst e1 e2 q2
  have r1' := repws_ds (r1.ws all_tree)
  refine ⟨G, ⟨a2, bs, r2, re, ?_, fun a m => ow a ?_, c⟩, r1'⟩
  · rw [List.append_assoc] at nd; exact (List.nodup_append.mp nd).2.1
  · rw [List.append_assoc]; exact List.mem_append_right _ m
theorem opd_mul : OpD X rMulA sMul := fun z stk vs env σ H Q k wa wb va vb ok r h q => by
  unfold sMul at h
  split at h
  · rename_i n h2
    have e2 := rd_int (r.look h2)
    subst e2
    split at h
    · rename_i i h1
      have e1 := rd_int (r.look2 h1)
      subst e1
      exact .inl ⟨i, n, rfl, rfl, h.1, q _ _ _ _ r.pop.pop.pushInt h.2⟩
    · rename_i s h1
      have e1 := rd_str (r.look2 h1)
      subst e1
      exact .inr (.inl ⟨s, n, rfl, rfl, h.1, q _ _ _ _ r.pop.pop.pushStr h.2⟩)
    · obtain ⟨ka, xs, e1, a, us, ea, sa, la, r1, hk, ⟨h3, h4, h5⟩, hq⟩ := r.pop.rowD h
      subst ea hk
      refine .inr (.inr ⟨a, n, us, rfl, rfl, sa, h3, h4, by rw [la]; exact h5, fun p hp => ?_⟩)
      obtain ⟨G, rg, rp⟩ := r1.ds la
      have r2 := rg.push (reps_rep rp n.toNat)
      refine q _ _ _ _ (r2.r.newL ?_ all_tree hp ok.op) hq
      have := (reps_rds (H := G) (Same.refl G) (reps_rep rp n.toNat)).len
      exact this
  · exact h.elim
theorem de_mul (ha : DE X a ta) (hb : DE X b tb) : DE X (.BinOp a .Mult b pos) (dOp sMul ta tb) := de_op (fun h h' => pe_op op_mulAll h h') opd_mul ha hb

/-! equality of data -/
mutual
def D.py : D → PyData
  | .bl b => .bool b
  | .int i => .int i
  | .str s => .str ⟨s.toArray⟩
  | .lst xs => .list (pys xs)
  | .klst xs => .list (pys xs)
  | .tup xs => .tuple (pys xs)
  | _ => .none
def pys : List D → List PyData
  | [] => []
  | x :: xs => x.py :: pys xs
end
mutual
/-- data that == reads, not deeper than n -/
def okq : Nat → D → Bool
  | _, .non => true
  | _, .bl _ => true
  | _, .int _ => true
  | _, .str s => s.all (· < 1114112)
  | n + 1, .lst xs => okqs n xs
  | n + 1, .klst xs => okqs n xs
  | n + 1, .tup xs => okqs n xs
  | _, _ => false
def okqs : Nat → List D → Bool
  | _, [] => true
  | n, x :: xs => okq n x && okqs n xs
end
mutual
/-- == of data -/
def eqv : D → D → Bool
  | .non, .non => true
  | .bl a, .bl b => a == b
  | .bl a, .int j => (if a then 1 else 0) == j
  | .int i, .bl b => i == (if b then 1 else 0)
  | .int i, .int j => i == j
  | .str x, .str y => x == y
  | .lst xs, .lst ys => eqvs xs ys
  | .klst xs, .lst ys => eqvs xs ys
  | .lst xs, .klst ys => eqvs xs ys
  | .klst xs, .klst ys => eqvs xs ys
  | .tup xs, .tup ys => eqvs xs ys
  | _, _ => false
def eqvs : List D → List D → Bool
  | [], [] => true
  | x :: xs, y :: ys => eqv x y && eqvs xs ys
  | _, _ => false
end
theorem str_beq (x y : List Nat) : ((⟨x.toArray⟩ : Str) == ⟨y.toArray⟩) = (x == y) := by
  rw [Bool.eq_iff_iff, beq_iff_eq, beq_iff_eq]
  constructor
  · intro h; have := Str.mk.inj h; simpa using this
  · intro h; rw [h]
mutual
theorem eqv_py : ∀ {n m : Nat} (x y : D), okq n x = true → okq m y = true → PyData.eqv x.py y.py = eqv x y
  | n, m, x, y, hx, hy => by
    cases x <;> cases y <;> first
      | rfl
      | exact str_beq _ _
      | (exfalso; simp [okq] at hx; done)
      | (exfalso; simp [okq] at hy; done)
      | (cases n <;> cases m <;> first | (exfalso; simp [okq] at hx; done) | (exfalso; simp [okq] at hy; done) | (simp only [okq] at hx hy; simp only [D.py, PyData.eqv, eqv]; exact eqvs_py _ _ hx hy) | (simp only [D.py, PyData.eqv, eqv]; done))
theorem eqvs_py : ∀ {n m : Nat} (x y : List D), okqs n x = true → okqs m y = true → PyData.eqvAll (pys x) (pys y) = eqvs x y
  | _, _, [], [], _, _ => by simp only [pys, PyData.eqvAll, eqvs]
  | _, _, [], _ :: _, _, _ => by simp only [pys, PyData.eqvAll, eqvs]
  | _, _, _ :: _, [], _, _ => by simp only [pys, PyData.eqvAll, eqvs]
  | n, m, x :: xs, y :: ys, hx, hy => by
    simp only [okqs, Bool.and_eq_true] at hx hy
    simp only [pys, PyData.eqvAll, eqvs]
    rw [eqv_py x y hx.1 hy.1, eqvs_py xs ys hx.2 hy.2]
end
mutual
theorem okq_lay : ∀ {n : Nat} (x : D), okq n x = true → x.py.canLay0 = true ∧ x.py.depth ≤ n
  | n, .non, _ => ⟨by simp only [D.py, PyData.canLay0], by simp only [D.py, PyData.depth]; exact Nat.zero_le _⟩
  | n, .bl _, _ => ⟨by simp only [D.py, PyData.canLay0], by simp only [D.py, PyData.depth]; exact Nat.zero_le _⟩
  | n, .int _, _ => ⟨by simp only [D.py, PyData.canLay0], by simp only [D.py, PyData.depth]; exact Nat.zero_le _⟩
  | n, .str s, h => ⟨by
      simp only [D.py, PyData.canLay0]
      have h2 : s.all (· < 1114112) = true := by simpa [okq] using h
      show Array.all s.toArray (fun c => decide (c < 0x110000)) = true
      simpa using h2, by simp only [D.py, PyData.depth]; exact Nat.zero_le _⟩
  | n + 1, .lst xs, h => ⟨by simp only [D.py, PyData.canLay0]; exact (okqs_lay xs (by simpa [okq] using h)).1, by simp only [D.py, PyData.depth]; exact Nat.succ_le_succ (okqs_lay xs (by simpa [okq] using h)).2⟩
  | n + 1, .klst xs, h => ⟨by simp only [D.py, PyData.canLay0]; exact (okqs_lay xs (by simpa [okq] using h)).1, by simp only [D.py, PyData.depth]; exact Nat.succ_le_succ (okqs_lay xs (by simpa [okq] using h)).2⟩
  | n + 1, .tup xs, h => ⟨by simp only [D.py, PyData.canLay0]; exact (okqs_lay xs (by simpa [okq] using h)).1, by simp only [D.py, PyData.depth]; exact Nat.succ_le_succ (okqs_lay xs (by simpa [okq] using h)).2⟩
  | 0, .lst xs, h => by simp [okq] at h
  | 0, .klst xs, h => by simp [okq] at h
  | 0, .tup xs, h => by simp [okq] at h
  | _, .ty _, h => by simp [okq] at h
  | _, .glo _, h => by simp [okq] at h
  | _, .ins _ _, h => by simp [okq] at h
  | _, .dct _, h => by simp [okq] at h
  | _, .cel _, h => by simp [okq] at h
theorem okqs_lay : ∀ {n : Nat} (x : List D), okqs n x = true → PyData.canLayAll0 (pys x) = true ∧ PyData.depthAll (pys x) ≤ n
  | n, [], _ => ⟨by simp only [pys, PyData.canLayAll0], by simp only [pys, PyData.depthAll]; exact Nat.zero_le _⟩
  | n, x :: xs, h => by
    simp only [okqs, Bool.and_eq_true] at h
    obtain ⟨h1, h2⟩ := okq_lay x h.1
    obtain ⟨h3, h4⟩ := okqs_lay xs h.2
    exact ⟨by simp only [pys, PyData.canLayAll0, h1, h3, Bool.and_self], by simp only [pys, PyData.depthAll]; exact Nat.max_le.mpr ⟨h2, h4⟩⟩
end
theorem okq_shaped {x : D} (h : okq 64 x = true) : SeqAt.shaped x.py = true := by
  obtain ⟨h1, h2⟩ := okq_lay x h
  unfold SeqAt.shaped
  rw [h1, decide_eq_true h2]; rfl
mutual
theorem Rep.dp {z : Z} {G H : Hp} (g : Same G H) : ∀ {n : Nat} {x : D} {v : V}, okq n x = true → Rep z G x v → Dp z.K H v x.py
  | _, .non, _, _, r => by cases r; exact .non
  | _, .bl _, _, _, r => by cases r; exact .bl _
  | _, .int _, _, _, r => by cases r; exact .int _
  | _, .str _, _, _, r => by cases r; exact .str _
  | n + 1, .lst xs, _, h, ⟨a, us, q, s, r⟩ => by subst q; simp only [D.py]; exact .lst (SqL.of (g _ _ s)) (Reps.dp g (by simpa [okq] using h) r)
  | n + 1, .klst xs, _, h, ⟨a, us, q, s, r⟩ => by subst q; simp only [D.py]; exact .lst (g.seq s) (Reps.dp g (by simpa [okq] using h) r)
  | n + 1, .tup xs, _, h, ⟨a, us, q, s, r⟩ => by subst q; simp only [D.py]; exact .tup (Same.tup g s) (Reps.dp g (by simpa [okq] using h) r)
  | 0, .lst _, _, h, _ => by simp [okq] at h
  | 0, .klst _, _, h, _ => by simp [okq] at h
  | 0, .tup _, _, h, _ => by simp [okq] at h
  | _, .ty _, _, h, _ => by simp [okq] at h
  | _, .glo _, _, h, _ => by simp [okq] at h
  | _, .ins _ _, _, h, _ => by simp [okq] at h
  | _, .dct _, _, h, _ => by simp [okq] at h
  | _, .cel _, _, h, _ => by simp [okq] at h
theorem Reps.dp {z : Z} {G H : Hp} (g : Same G H) : ∀ {n : Nat} {x : List D} {v : List V}, okqs n x = true → Reps z G x v → DpAll z.K H v (pys x)
  | _, [], _, _, r => by cases r; simp only [pys]; exact .nil
  | n, x :: xs, _, h, ⟨v, vs, q, r, r2⟩ => by
    subst q
    simp only [okqs, Bool.and_eq_true] at h
    simp only [pys]
    exact .cons (Rep.dp g h.1 r) (Reps.dp g h.2 r2)
end
mutual
theorem RepW.dp {z : Z} {G H : Hp} (g : Same G H) : ∀ {n : Nat} {w : W} {v : V} {as : List Addr}, okq n (fz w) = true → RepW z G H w v as → nosto w = true → Dp z.K H v (fz w).py
  | n, .d x, _, _, h, ⟨_, r⟩, _ => Rep.dp g h r
  | n + 1, .ol ws, _, _, h, ⟨a, us, as', q, _, s, r⟩, t => by subst q; simp only [fz, D.py]; exact .lst (SqL.of s) (RepWs.dp g (by simpa [okq, fz] using h) r t)
  | n + 1, .ot ws, _, _, h, ⟨a, us, as', q, _, s, r⟩, t => by subst q; simp only [fz, D.py]; exact .tup (SqT.of s) (RepWs.dp g (by simpa [okq, fz] using h) r t)
  | 0, .ol _, _, _, h, _, _ => by simp [okq, fz] at h
  | 0, .ot _, _, _, h, _, _ => by simp [okq, fz] at h
  | _, .oi _ _, _, _, h, _, _ => by simp [okq, fz] at h
  | _, .od _, _, _, h, _, _ => by simp [okq, fz] at h
  | _, .sto, _, _, _, _, t => by cases t
  | _, .exn _ _, _, _, _, _, t => by cases t
  | _, .at_ _, _, _, _, _, t => by cases t
  | _, .hole, _, _, _, _, t => by cases t
theorem RepWs.dp {z : Z} {G H : Hp} (g : Same G H) : ∀ {n : Nat} {x : List W} {v : List V} {as : List Addr}, okqs n (fzs x) = true → RepWs z G H x v as → nostos x = true → DpAll z.K H v (pys (fzs x))
  | _, [], _, _, _, r, _ => by cases r.1; simp only [fzs, pys]; exact .nil
  | n, x :: xs, _, _, h, ⟨v, vs, _, _, q, _, r, r2⟩, t => by
    subst q
    simp only [fzs, okqs, Bool.and_eq_true] at h
    simp only [fzs, pys]
    exact .cons (RepW.dp g h.1 r (band t).1) (RepWs.dp g h.2 r2 (band t).2)
end
end
end DL

/-! DL7: comparisons, truth, and, or, not, displays, subscripts, slices. -/
namespace DL
open PySem PySem.Spec
open PyProof.Rows L2
/-- what an expression is not: a display of a set, a star, a slice -/
structure Pl (e : Expr) : Prop where
  star : ∀ es env, starEach (e :: es) env = (false, eval e env) :: starEach es env
  mark : ∀ op, behindInMarks op e = false
  fold : ∀ env x, foldedSetIterable e env x = pure x
  ix : PlainIx e
/-- its test is its value's truth -/
def Tr (e : Expr) : Prop := ∀ env whole, isTrue e env whole = (do let v ← whole; standAt e.pos; holding [v] (truthy v))
section
variable {X : Cx} {e a b c : Expr} {ta tb tc : DTE} {pos : Pos}
theorem rdw_dp {z : Z} {H : Hp} {w : W} {v : V} (h : Rd1 z H w v) (n : nosto w = true) (q : okq 64 (fz w) = true) : Dp z.K H v (fz w).py := let ⟨_, _, g, r⟩ := h; RepW.dp g q r n
def kEq (neg : Bool) (x y : D) (k : Bool → Prop) : Prop := match x, y with
  | .str s, .str t => k (neg != (s == t))
  | x, y => okq 64 x = true ∧ okq 64 y = true ∧ k (neg != eqv x y)
def sEq (neg : Bool) : DOp := fun wa wb env k => match peek env wa, peek env wb with
  | some a, some b => nosto a = true ∧ nosto b = true ∧ kEq neg (fz a) (fz b) fun c => k (.d (.bl c)) env
  | _, _ => False
def rEqA (K : PySem.W.Frag) : R2 := fun x y H Q => rEq x y H Q ∨ rEqD K x y H Q
def rNeA (K : PySem.W.Frag) : R2 := fun x y H Q => rNe x y H Q ∨ rNeD K x y H Q
theorem op_eqA (hu : X.A.units + 64 < cLine) : OpR X (compareOp .Eq) (rEqA X.K) := OpR.or op_eq (op_eqD hu)
theorem op_neA (hu : X.A.units + 64 < cLine) : OpR X (compareOp .NotEq) (rNeA X.K) := OpR.or op_ne (op_neD hu)
theorem sEq_elim {neg : Bool} {wa wb : W} {env : Env} {k : DK} (h : sEq neg wa wb env k) : ∃ a b, peek env wa = some a ∧ peek env wb = some b ∧ nosto a = true ∧ nosto b = true ∧
    ((∃ s t, fz a = .str s ∧ fz b = .str t ∧ k (.d (.bl (neg != (s == t)))) env) ∨ (okq 64 (fz a) = true ∧ okq 64 (fz b) = true ∧ k (.d (.bl (neg != eqv (fz a) (fz b)))) env)) := by
  unfold sEq at h
  split at h
  · rename_i a b h1 h2
    obtain ⟨n1, n2, h3⟩ := h
    refine ⟨a, b, h1, h2, n1, n2, ?_⟩
    unfold kEq at h3
    split at h3
    · rename_i s t e1 e2
      exact .inl ⟨s, t, e1, e2, h3⟩
    · exact .inr h3
  · exact h.elim
theorem fz_str {a : W} {s : List Nat} (h : fz a = .str s) : a = .d (.str s) := by
  cases a <;> first | (simp only [fz] at h; rw [h]) | (simp only [fz] at h; cases h)
theorem opd_eq : OpD X (rEqA X.K) (sEq false) := fun z stk vs env σ H Q k wa wb va vb ok r h q => by
  obtain ⟨a, b, h1, h2, n1, n2, h3⟩ := sEq_elim h
  have r2 := r.look h2
  have r1 := r.look2 h1
  rcases h3 with ⟨s, t, e1, e2, hk⟩ | ⟨q1, q2, hk⟩
  · have e1 := fz_str e1
    have e2 := fz_str e2
    subst e1 e2
    have e1 := rd_str r1
    have e2 := rd_str r2
    subst e1 e2
    refine .inl ⟨rfl, ?_⟩
    rw [dec_str, str_beq]
    rw [Bool.false_bne] at hk
    exact q _ _ _ _ r.pop.pop.pushBl hk
  · refine .inr ⟨_, _, ok.k ▸ rdw_dp r1 n1 q1, ok.k ▸ rdw_dp r2 n2 q2, okq_shaped q1, okq_shaped q2, ?_⟩
    rw [eqv_py _ _ q1 q2]
    rw [Bool.false_bne] at hk
    exact q _ _ _ _ r.pop.pop.pushBl hk
theorem opd_ne : OpD X (rNeA X.K) (sEq true) := fun z stk vs env σ H Q k wa wb va vb ok r h q => by
  obtain ⟨a, b, h1, h2, n1, n2, h3⟩ := sEq_elim h
  have r2 := r.look h2
  have r1 := r.look2 h1
  rcases h3 with ⟨s, t, e1, e2, hk⟩ | ⟨q1, q2, hk⟩
  · have e1 := fz_str e1
    have e2 := fz_str e2
    subst e1 e2
    have e1 := rd_str r1
    have e2 := rd_str r2
    subst e1 e2
    refine .inl ⟨rfl, ?_⟩
    rw [dec_str, str_beq]
    rw [Bool.true_bne] at hk
    exact q _ _ _ _ r.pop.pop.pushBl hk
  · refine .inr ⟨_, _, ok.k ▸ rdw_dp r1 n1 q1, ok.k ▸ rdw_dp r2 n2 q2, okq_shaped q1, okq_shaped q2, ?_⟩
    rw [eqv_py _ _ q1 q2]
    rw [Bool.true_bne] at hk
    exact q _ _ _ _ r.pop.pop.pushBl hk
/-! order of ints (and texts) -/
def sOrd (p : Int → Int → Bool) : DOp := fun wa wb env k => match peek env wa, peek env wb with
  | some (.d (.int i)), some (.d (.int j)) => k (.d (.bl (p i j))) env
  | _, _ => False
theorem opd_ord {p : Int → Int → Bool} : OpD X (rI0 fun i j => .bl (p i j)) (sOrd p) := fun z stk vs env σ H Q k wa wb va vb ok r h q => by
  unfold sOrd at h
  split at h
  · rename_i i j h1 h2
    have e2 := rd_int (r.look h2)
    have e1 := rd_int (r.look2 h1)
    subst e1 e2
    exact ⟨i, j, rfl, rfl, q _ _ _ _ r.pop.pop.pushBl h⟩
  · exact h.elim
/-! in -/
def flatD : D → Bool
  | .non => true
  | .bl _ => true
  | .int _ => true
  | .str _ => true
  | _ => false
def inD (x : D) (xs : List D) : Bool := xs.any fun y => eqv y x
def sIn (neg : Bool) : DOp := fun wa wb env k => match peek env wb with
  | some (.d (.str t)) => match peek env wa with
    | some (.d (.str [c])) => k (.d (.bl (neg != decide (c ∈ t)))) env
    | _ => False
  | some b => match peek env wa, flat b with
    | some (.d x), some (_, xs) => flatD x = true ∧ xs.all flatD = true ∧ k (.d (.bl (neg != inD x xs))) env
    | _, _ => False
  | _ => False
theorem flat_v {z : Z} {G : Hp} {x : D} {v : V} (r : Rep z G x v) (h : flatD x = true) : flatV v = true := by
  cases x with
  | non => cases r; rfl
  | bl _ => cases r; rfl
  | int _ => cases r; rfl
  | str _ => cases r; rfl
  | _ => cases h
theorem flat_vs {z : Z} {G : Hp} : ∀ {xs : List D} {vs : List V}, Reps z G xs vs → xs.all flatD = true → vs.all flatV = true
  | [], _, q, _ => by cases q; rfl
  | _ :: _, _, ⟨v, vs, q, r, r2⟩, h => by
    subst q
    obtain ⟨h1, h2⟩ := band h
    show (flatV v && vs.all flatV) = true
    rw [flat_v r h1, flat_vs r2 h2]; rfl
theorem eqv_v {z : Z} {G G' : Hp} {x y : D} {u v : V} (rx : Rep z G x u) (ry : Rep z G' y v) (hx : flatD x = true) (hy : flatD y = true) : eqV u v = eqv x y := by
  cases x <;> first | cases hx | skip
  all_goals (cases rx; cases y <;> first | (cases ry; rfl) | (cases ry; exact str_beq _ _) | (exfalso; exact Bool.noConfusion hy))
theorem in_v {z : Z} {G G' : Hp} {x : D} {u : V} (rx : Rep z G x u) (hx : flatD x = true) : ∀ {xs : List D} {vs : List V}, Reps z G' xs vs → xs.all flatD = true → inV u vs = inD x xs
  | [], _, q, _ => by cases q; rfl
  | _ :: _, _, ⟨v, vs, q, r, r2⟩, h => by
    subst q
    obtain ⟨h1, h2⟩ := band h
    have e := in_v rx hx r2 h2
    show (eqV v u || inV u vs) = _
    rw [e, eqv_v r rx h1 hx]; rfl
def rInA (K : PySem.W.Frag) (neg : Bool) : R2 := fun x y H Q => (∃ (c : Nat) (z : Str), x = .str ⟨#[c]⟩ ∧ y = .str z ∧ Q (.bl (neg != decide (c ∈ z.cps.toList))) H) ∨ rIn K neg x y H Q
theorem op_inA : OpR X (compareOp .In) (rInA X.K false) := OpR.or (fun pins s σ H x y v u Q I rx ry ⟨c, z, e1, e2, q⟩ => op_in_sign pins s σ H x y v u Q I rx ry ⟨c, z, e1, e2, by rw [Bool.false_bne] at q; exact q⟩) op_in_seq
theorem op_niA : OpR X (compareOp .NotIn) (rInA X.K true) := OpR.or (fun pins s σ H x y v u Q I rx ry ⟨c, z, e1, e2, q⟩ => op_notIn_sign pins s σ H x y v u Q I rx ry ⟨c, z, e1, e2, by rw [Bool.true_bne] at q; exact q⟩) op_notIn_seq
theorem sqk_or {K : PySem.W.Frag} {H : Hp} {a : Addr} {us : List V} {k : SeqK} (h : SqK K H a us k) : SqL K H a us ∨ SqT K H a us := by
  cases k with
  | l => exact .inl (SqL.of h)
  | r => exact .inl h
  | t => exact .inr h
theorem opd_in {neg : Bool} : OpD X (rInA X.K neg) (sIn neg) := fun z stk vs env σ H Q k wa wb va vb ok r h q => by
  unfold sIn at h
  split at h
  · rename_i t h2
    split at h
    · rename_i c h1
      have e2 := rd_str (r.look h2)
      have e1 := rd_str (r.look2 h1)
      subst e1 e2
      exact .inl ⟨c, _, rfl, rfl, q _ _ _ _ r.pop.pop.pushBl h⟩
    · exact h.elim
  · rename_i b _ h2
    split at h
    · rename_i x kd xs h1 h3
      obtain ⟨f1, f2, hk⟩ := h
      obtain ⟨G, as, g, rb⟩ := r.look h2
      obtain ⟨a, us, ea, sa, ra⟩ := rb.flat g h3
      obtain ⟨G', _, _, _, rx⟩ := r.look2 h1
      subst ea
      refine .inr ⟨a, us, rfl, ok.k ▸ sqk_or sa, flat_v rx f1, flat_vs ra f2, ?_⟩
      rw [in_v rx f1 ra f2]
      cases neg
      · rw [Bool.false_bne] at hk; exact q _ _ _ _ r.pop.pop.pushBl hk
      · rw [Bool.true_bne] at hk; exact q _ _ _ _ r.pop.pop.pushBl hk
    · exact h.elim
  · exact h.elim
/-! is None -/
def nonW : W → Bool
  | .d .non => true
  | _ => false
def sIsN (neg : Bool) : DOp := fun wa wb env k => match peek env wb with
  | some (.d .non) => match peek env wa with
    | some a => k (.d (.bl (neg != nonW a))) env
    | none => False
  | _ => False
theorem non_v {z : Z} {H : Hp} {w : W} {v : V} (h : Rd1 z H w v) : decide (v = .non) = nonW w := by
  obtain ⟨G, as, _, r⟩ := h
  have ne : ∀ {a : Addr}, decide (V.ref a = .non) = false := fun {a} => decide_eq_false (fun q => nomatch q)
  cases w with
  | d x =>
    obtain ⟨_, r⟩ := r
    cases x with
    | non => cases r; rfl
    | bl _ => cases r; rfl
    | int _ => cases r; rfl
    | str _ => cases r; rfl
    | ty _ => cases r; rfl
    | glo _ => obtain ⟨a, _, q⟩ := r; subst q; exact ne
    | lst _ => obtain ⟨a, _, q, _⟩ := r; subst q; exact ne
    | klst _ => obtain ⟨a, _, q, _⟩ := r; subst q; exact ne
    | tup _ => obtain ⟨a, _, q, _⟩ := r; subst q; exact ne
    | cel _ => obtain ⟨_, a, _, q, _⟩ := r; subst q; exact ne
    | ins _ _ => obtain ⟨a, _, _, _, q, _⟩ := r; subst q; exact ne
    | dct _ => obtain ⟨a, _, q, _⟩ := r; subst q; exact ne
  | ol _ => obtain ⟨a, _, _, q, _⟩ := r; subst q; exact ne
  | ot _ => obtain ⟨a, _, _, q, _⟩ := r; subst q; exact ne
  | oi _ _ => obtain ⟨a, _, _, _, _, q, _⟩ := r; subst q; exact ne
  | od _ => obtain ⟨a, _, _, q, _⟩ := r; subst q; exact ne
  | sto => obtain ⟨_, s, _, q⟩ := r; subst q; exact ne
  | exn _ _ => obtain ⟨_, i, _, q, _⟩ := r; subst q; exact ne
  | oL _ => obtain ⟨a, _, _, _, q, _⟩ := r; subst q; exact ne
  | at_ _ => exact r.elim
  | hole => exact r.elim
def rIsN (neg : Bool) : R2 := fun x y H Q => y = .non ∧ Q (.bl (neg != decide (x = .non))) H
theorem op_isNA : OpR X (compareOp .Is) (rIsN false) := fun pins s σ H x y v u Q I rx ry ⟨e, q⟩ => op_isN pins s σ H x y v u Q I rx ry ⟨e, by rw [Bool.false_bne] at q; exact q⟩
theorem op_notNA : OpR X (compareOp .IsNot) (rIsN true) := fun pins s σ H x y v u Q I rx ry ⟨e, q⟩ => op_notN pins s σ H x y v u Q I rx ry ⟨e, by rw [Bool.true_bne] at q; exact q⟩
theorem opd_isN {neg : Bool} : OpD X (rIsN neg) (sIsN neg) := fun z stk vs env σ H Q k wa wb va vb ok r h q => by
  unfold sIsN at h
  split at h
  · rename_i h2
    have e2 := rd_non (r.look h2)
    subst e2
    split at h
    · rename_i a h1
      refine ⟨rfl, ?_⟩
      rw [non_v (r.look2 h1)]
      exact q _ _ _ _ r.pop.pop.pushBl h
    · exact h.elim
  · exact h.elim
/-! a comparison by its operator -/
def sCmp : CmpOp → DOp
  | .Eq => sEq false
  | .NotEq => sEq true
  | .Lt => sOrd fun i j => decide (i < j)
  | .LtE => sOrd fun i j => decide (i ≤ j)
  | .Gt => sOrd fun i j => decide (j < i)
  | .GtE => sOrd fun i j => decide (j ≤ i)
  | .Is => sIsN false
  | .IsNot => sIsN true
  | .In => sIn false
  | .NotIn => sIn true
def rCmp (K : PySem.W.Frag) : CmpOp → R2
  | .Eq => rEqA K
  | .NotEq => rNeA K
  | .Lt => rI0 fun i j => .bl (decide (i < j))
  | .LtE => rI0 fun i j => .bl (decide (i ≤ j))
  | .Gt => rI0 fun i j => .bl (decide (j < i))
  | .GtE => rI0 fun i j => .bl (decide (j ≤ i))
  | .Is => rIsN false
  | .IsNot => rIsN true
  | .In => rInA K false
  | .NotIn => rInA K true
theorem op_cmp (hu : X.A.units + 64 < cLine) : ∀ op, OpR X (compareOp op) (rCmp X.K op)
  | .Eq => op_eqA hu
  | .NotEq => op_neA hu
  | .Lt => op_lt
  | .LtE => op_le
  | .Gt => op_gt
  | .GtE => op_ge
  | .Is => op_isNA
  | .IsNot => op_notNA
  | .In => op_inA
  | .NotIn => op_niA
theorem opd_cmp : ∀ op, OpD X (rCmp X.K op) (sCmp op)
  | .Eq => opd_eq
  | .NotEq => opd_ne
  | .Lt => opd_ord
  | .LtE => opd_ord
  | .Gt => opd_ord
  | .GtE => opd_ord
  | .Is => opd_isN
  | .IsNot => opd_isN
  | .In => opd_in
  | .NotIn => opd_in
theorem de_cmp (hu : X.A.units + 64 < cLine) (op : CmpOp) (hb' : behindInMarks op b = false) (ha : DE X a ta) (hb : DE X b tb) : DE X (.Compare a [op] [b] pos) (dOp (sCmp op) ta tb) := de_op (fun h h' => pe_cmpR (op_cmp hu op) h h' hb') (opd_cmp op) ha hb

/-! truth -/
def truD : W → Option Bool
  | .d .non => some false
  | .d (.bl b) => some b
  | .d (.int i) => some (i != 0)
  | .d (.str s) => some (s.length != 0)
  | .d (.lst xs) => some (!xs.isEmpty)
  | .d (.klst xs) => some (!xs.isEmpty)
  | .d (.tup xs) => some (!xs.isEmpty)
  | .d (.dct xs) => some (!xs.isEmpty)
  | .ol xs => some (!xs.isEmpty)
  | .ot xs => some (!xs.isEmpty)
  | .od xs => some (!xs.isEmpty)
  | _ => none
def lenD : W → Nat
  | .d (.str s) => s.length
  | _ => 0
def kTru (w : W) (env : Env) (k : Bool → Env → Prop) : Prop := match peek env w with
  | some a => match truD a with
    | some b => lenD a ≤ sizeLine ∧ k b env
    | none => False
  | none => False
theorem kTru_elim {w : W} {env : Env} {k : Bool → Env → Prop} (h : kTru w env k) : ∃ a b, peek env w = some a ∧ truD a = some b ∧ lenD a ≤ sizeLine ∧ k b env := by
  unfold kTru at h
  split at h
  · rename_i a h1
    split at h
    · rename_i b h2
      exact ⟨a, b, h1, h2, h⟩
    · exact h.elim
  · exact h.elim
theorem reps_emp {z : Z} {G : Hp} {xs : List D} {vs : List V} (r : Reps z G xs vs) : vs.isEmpty = xs.isEmpty := by
  cases xs with
  | nil => cases r; rfl
  | cons _ _ => obtain ⟨v, vs', q, _⟩ := r; subst q; rfl
theorem repws_emp {z : Z} {G H : Hp} {xs : List W} {vs : List V} {as : List Addr} (r : RepWs z G H xs vs as) : vs.isEmpty = xs.isEmpty := by
  cases xs with
  | nil => cases r.1; rfl
  | cons _ _ => obtain ⟨v, vs', _, _, q, _⟩ := r; subst q; rfl
theorem repk_emp {z : Z} {G : Hp} {xs : List (Key × D)} {vs : List (Key × V)} (r : RepK z G xs vs) : vs.isEmpty = xs.isEmpty := by
  cases xs with
  | nil => cases r; rfl
  | cons p _ => obtain ⟨v, vs', q, _⟩ := (show ∃ v vs', vs = (p.1, v) :: vs' ∧ _ from r); subst q; rfl
theorem repwk_emp {z : Z} {G H : Hp} {xs : List (Key × W)} {vs : List (Key × V)} {as : List Addr} (r : RepWk z G H xs vs as) : vs.isEmpty = xs.isEmpty := by
  cases xs with
  | nil => cases r.1; rfl
  | cons p _ => obtain ⟨v, vs', _, _, q, _⟩ := (show ∃ v vs' a1 a2, vs = (p.1, v) :: vs' ∧ _ from r); subst q; rfl
theorem tru_v {z : Z} {H : Hp} {w : W} {v : V} {b : Bool} (h : Rd1 z H w v) (t : truD w = some b) (l : lenD w ≤ sizeLine) : TruV z.K v H b := by
  obtain ⟨G, as, g, r⟩ := h
  cases w with
  | d x =>
    obtain ⟨_, r⟩ := r
    cases x with
    | non => cases r; cases t; exact rfl
    | bl _ => cases r; cases t; exact rfl
    | int _ => cases r; cases t; exact rfl
    | str s =>
      cases r; cases t
      refine ⟨by rw [str_len]; exact l, ?_⟩
      rw [str_len]
      cases s with
      | nil => rfl
      | cons x s =>
        have e1 : ((x :: s).length != 0) = true := by simp
        have e2 : (((x :: s).length : Int) != 0) = true := by simp; omega
        rw [e1, e2]
    | lst _ => cases t; obtain ⟨a, us, q, s, r⟩ := r; subst q; exact .inl ⟨us, SqL.of (g _ _ s), by rw [reps_emp r]⟩
    | klst _ => cases t; obtain ⟨a, us, q, s, r⟩ := r; subst q; exact .inl ⟨us, g.seq s, by rw [reps_emp r]⟩
    | tup _ => cases t; obtain ⟨a, us, q, s, r⟩ := r; subst q; exact .inr (.inl ⟨us, Same.tup g s, by rw [reps_emp r]⟩)
    | dct _ => cases t; obtain ⟨a, us, q, s, r⟩ := r; subst q; exact .inr (.inr ⟨us, g _ _ s, by rw [repk_emp r]⟩)
    | _ => cases t
  | ol _ => cases t; obtain ⟨a, us, _, q, _, s, r⟩ := r; subst q; exact .inl ⟨us, SqL.of s, by rw [repws_emp r]⟩
  | ot _ => cases t; obtain ⟨a, us, _, q, _, s, r⟩ := r; subst q; exact .inr (.inl ⟨us, SqT.of s, by rw [repws_emp r]⟩)
  | od _ => cases t; obtain ⟨a, us, _, q, _, s, r⟩ := r; subst q; exact .inr (.inr ⟨us, s, by rw [repwk_emp r]⟩)
  | _ => cases t
/-- a value's truth -/
def dTru (ta : DTE) : DTT := fun env k kx => ta env (fun w e1 => kTru w e1 k) kx
theorem dt_tru (he : Tr a) (ha : DE X a ta) : DT X a (dTru ta) := fun Wx tk => by
  obtain ⟨te, p, h⟩ := ha Wx tk
  refine ⟨_, pt_truth p (he _), fun z stk vs env σ H Q k kx ok r t q qx => ?_⟩
  refine h z stk vs env σ H _ _ kx ok r t (fun w env' v H' r1 k1 => ?_) qx
  obtain ⟨a, b, h1, h2, h3, hk⟩ := kTru_elim k1
  exact ⟨b, ok.k ▸ tru_v (r1.look h1) h2 h3, q _ _ _ r1.pop hk⟩
def kBl (k : Bool → Env → Prop) : DK := fun w env => match w with
  | .d (.bl c) => k c env
  | _ => False
theorem kBl_elim {k : Bool → Env → Prop} {w : W} {env : Env} (h : kBl k w env) : ∃ c, w = .d (.bl c) ∧ k c env := by
  unfold kBl at h
  split at h
  · exact ⟨_, rfl, h⟩
  · exact h.elim
/-- a value that is a truth -/
def dBl (ta : DTE) : DTT := fun env k kx => ta env (kBl k) kx
theorem dt_cmp (hu : X.A.units + 64 < cLine) (op : CmpOp) (hb' : behindInMarks op b = false) (ha : DE X a ta) (hb : DE X b tb) : DT X (.Compare a [op] [b] pos) (dBl (dOp (sCmp op) ta tb)) := fun Wx tk => by
  obtain ⟨te1, p1, h1⟩ := ha Wx tk
  obtain ⟨te2, p2, h2⟩ := hb Wx tk
  refine ⟨_, pt_cmpR (op_cmp hu op) p1 p2 hb', fun z stk vs env σ H Q k kx ok rl t q qx => ?_⟩
  refine h1 z stk vs env σ H _ _ kx ok rl t (fun w env' v H' r1 k1 => ?_) qx
  refine h2 z _ _ env' σ H' _ _ kx ok r1 k1 (fun w2 env2 v2 H2 r2 k2 => ?_) fun x e c d H' rx => qx x e c d H' rx.pop
  refine opd_cmp op z stk vs env2 σ H2 _ _ _ _ _ _ ok r2 k2 fun w env' v H' r3 k3 => ?_
  obtain ⟨c, rfl, hk⟩ := kBl_elim k3
  exact ⟨c, rd_bl (r3.look rfl), q _ _ _ r3.pop hk⟩
/-! a < b < c -/
def dChn (op op' : CmpOp) (ta tb tc : DTE) : DTE := fun env k kx => ta env (fun wa e1 => tb e1 (fun wb e2 => match peek e2 wb with
  | some (.d (.int j)) => sCmp op wa (.d (.int j)) e2 fun w e3 => kBl (fun c e4 => if c = true then tc e4 (fun wc e5 => sCmp op' (.d (.int j)) wc e5 k) kx else k (.d (.bl false)) e4) w e3
  | _ => False) kx) kx
theorem Rel.re {z : Z} {stk : List W} {vs : List V} {env : Env} {σ : St} {H : Hp} {w : W} {v : V} {j : Int} (r : Rel z (w :: stk) (v :: vs) env σ H) (h : peek env w = some (.d (.int j))) : Rel z (.d (.int j) :: stk) (v :: vs) env σ H := by
  have e := rd_int (r.look h)
  subst e
  exact r.pop.pushInt
theorem de_chn (hu : X.A.units + 64 < cLine) (op op' : CmpOp) (hm : lastMarks [op, op'] [b, c] = false) (ha : DE X a ta) (hb : DE X b tb) (hc : DE X c tc) : DE X (.Compare a [op, op'] [b, c] pos) (dChn op op' ta tb tc) := fun Wx tk => by
  obtain ⟨te1, p1, h1⟩ := ha Wx tk
  obtain ⟨te2, p2, h2⟩ := hb Wx tk
  obtain ⟨te3, p3, h3⟩ := hc Wx tk
  refine ⟨_, pe_chain (op_cmp hu op) (op_cmp hu op') p1 p2 p3 hm, fun z stk vs env σ H Q k kx ok rl t q qx => ?_⟩
  refine h1 z stk vs env σ H _ _ kx ok rl t (fun w env' v H' r1 k1 => ?_) qx
  refine h2 z _ _ env' σ H' _ _ kx ok r1 k1 (fun w2 env2 v2 H2 r2 k2 => ?_) fun x e c d H' rx => qx x e c d H' rx.pop
  split at k2
  · rename_i j hj
    have r2' := r2.re hj
    -- the middle is kept below
    have ej := rd_int (r2.look hj)
    subst ej
    refine opd_cmp op z (.d (.int j) :: stk) (.int j :: vs) env2 σ H2 _ _ _ _ _ _ ok (Rel.down (s1 := [.d (.int j), w]) (u1 := [.int j, v]) (r2'.pushInt (i := j)) rfl) k2 fun w3 env3 v3 H3 r3 k3 => ?_
    obtain ⟨cc, rfl, hk⟩ := kBl_elim k3
    refine ⟨cc, rd_bl (r3.look rfl), ?_⟩
    cases cc with
    | false =>
      rw [if_neg (by decide)]
      rw [if_neg (by decide)] at hk
      exact q _ _ _ _ r3.pop.pop.pushBl hk
    | true =>
      rw [if_pos rfl]
      rw [if_pos rfl] at hk
      refine h3 z _ _ env3 σ H3 _ _ kx ok r3.pop hk (fun w5 env5 v5 H5 r5 k5 => ?_) fun x e c d H' rx => qx x e c d H' rx.pop
      exact opd_cmp op' z stk vs env5 σ H5 _ _ _ _ _ _ ok r5 k5 q
  · exact k2.elim
theorem dt_chn (hu : X.A.units + 64 < cLine) (op op' : CmpOp) (hm : lastMarks [op, op'] [b, c] = false) (ha : DE X a ta) (hb : DE X b tb) (hc : DE X c tc) : DT X (.Compare a [op, op'] [b, c] pos) (dBl (dChn op op' ta tb tc)) := fun Wx tk => by
  obtain ⟨te1, p1, h1⟩ := ha Wx tk
  obtain ⟨te2, p2, h2⟩ := hb Wx tk
  obtain ⟨te3, p3, h3⟩ := hc Wx tk
  refine ⟨_, pt_chain (op_cmp hu op) (op_cmp hu op') p1 p2 p3 hm, fun z stk vs env σ H Q k kx ok rl t q qx => ?_⟩
  refine h1 z stk vs env σ H _ _ kx ok rl t (fun w env' v H' r1 k1 => ?_) qx
  refine h2 z _ _ env' σ H' _ _ kx ok r1 k1 (fun w2 env2 v2 H2 r2 k2 => ?_) fun x e c d H' rx => qx x e c d H' rx.pop
  split at k2
  · rename_i j hj
    have r2' := r2.re hj
    have ej := rd_int (r2.look hj)
    subst ej
    refine opd_cmp op z (.d (.int j) :: stk) (.int j :: vs) env2 σ H2 _ _ _ _ _ _ ok (Rel.down (s1 := [.d (.int j), w]) (u1 := [.int j, v]) (r2'.pushInt (i := j)) rfl) k2 fun w3 env3 v3 H3 r3 k3 => ?_
    obtain ⟨cc, rfl, hk⟩ := kBl_elim k3
    refine ⟨cc, rd_bl (r3.look rfl), ?_⟩
    cases cc with
    | false =>
      rw [if_neg (by decide)]
      rw [if_neg (by decide)] at hk
      exact ⟨false, rfl, q _ _ _ r3.pop.pop hk⟩
    | true =>
      rw [if_pos rfl]
      rw [if_pos rfl] at hk
      refine h3 z _ _ env3 σ H3 _ _ kx ok r3.pop hk (fun w5 env5 v5 H5 r5 k5 => ?_) fun x e c d H' rx => qx x e c d H' rx.pop
      refine opd_cmp op' z stk vs env5 σ H5 _ _ _ _ _ _ ok r5 k5 fun w6 env6 v6 H6 r6 k6 => ?_
      obtain ⟨c6, rfl, hk6⟩ := kBl_elim k6
      exact ⟨c6, rd_bl (r6.look rfl), q _ _ _ r6.pop hk6⟩
  · exact k2.elim
/-! not, and, or as tests -/
variable {sa sb sc : DTT} {rest : List Expr}
def dNotT (sa : DTT) : DTT := fun env k kx => sa env (fun c e1 => k (!c) e1) kx
theorem dt_not (ha : DT X a sa) : DT X (.UnaryOp .Not a pos) (dNotT sa) := fun Wx tk => by
  obtain ⟨te, p, h⟩ := ha Wx tk
  exact ⟨_, pt_not p, fun z stk vs env σ H Q k kx ok r t q qx => h z stk vs env σ H _ _ kx ok r t (fun c env' H' r1 k1 => q _ _ _ r1 k1) qx⟩
def dAndT (sa sb : DTT) : DTT := fun env k kx => sa env (fun c e1 => if c = true then sb e1 k kx else k false e1) kx
def dOrT (sa sb : DTT) : DTT := fun env k kx => sa env (fun c e1 => if c = true then k true e1 else sb e1 k kx) kx
theorem DW.dt (h : DW X a sa) : DT X a sa := fun Wx tk => let ⟨_, p, q⟩ := h Wx tk; ⟨_, p.pt, q⟩
theorem dw_and1 (ha : DT X a sa) : DW X (.BoolOp .And [a] pos) sa := fun Wx tk => let ⟨_, p, q⟩ := ha Wx tk; ⟨_, pw_and1 p, q⟩
theorem dw_or1 (ha : DT X a sa) : DW X (.BoolOp .Or [a] pos) sa := fun Wx tk => let ⟨_, p, q⟩ := ha Wx tk; ⟨_, pw_or1 p, q⟩
theorem dw_and (ha : DT X a sa) (hb : DW X (.BoolOp .And (b :: rest) pos) sb) : DW X (.BoolOp .And (a :: b :: rest) pos) (dAndT sa sb) := fun Wx tk => by
  obtain ⟨te1, p1, h1⟩ := ha Wx tk
  obtain ⟨te2, p2, h2⟩ := hb Wx tk
  refine ⟨_, pw_and p1 p2, fun z stk vs env σ H Q k kx ok r t q qx => h1 z stk vs env σ H _ _ kx ok r t (fun c env' H' r1 k1 => ?_) qx⟩
  cases c with
  | true => exact h2 z stk vs env' σ H' Q k kx ok r1 k1 q qx
  | false => exact q _ _ _ r1 k1
theorem dw_or (ha : DT X a sa) (hb : DW X (.BoolOp .Or (b :: rest) pos) sb) : DW X (.BoolOp .Or (a :: b :: rest) pos) (dOrT sa sb) := fun Wx tk => by
  obtain ⟨te1, p1, h1⟩ := ha Wx tk
  obtain ⟨te2, p2, h2⟩ := hb Wx tk
  refine ⟨_, pw_or p1 p2, fun z stk vs env σ H Q k kx ok r t q qx => h1 z stk vs env σ H _ _ kx ok r t (fun c env' H' r1 k1 => ?_) qx⟩
  cases c with
  | true => exact q _ _ _ r1 k1
  | false => exact h2 z stk vs env' σ H' Q k kx ok r1 k1 q qx
/-! .. as values -/
def dNot (ta : DTE) : DTE := fun env k kx => ta env (fun w e1 => kTru w e1 fun c e2 => k (.d (.bl (!c))) e2) kx
theorem de_not (ha : DE X a ta) : DE X (.UnaryOp .Not a pos) (dNot ta) := fun Wx tk => by
  obtain ⟨te, p, h⟩ := ha Wx tk
  refine ⟨_, pe_notT p, fun z stk vs env σ H Q k kx ok r t q qx => h z stk vs env σ H _ _ kx ok r t (fun w env' v H' r1 k1 => ?_) qx⟩
  obtain ⟨a, b, h1, h2, h3, hk⟩ := kTru_elim k1
  exact ⟨b, ok.k ▸ tru_v (r1.look h1) h2 h3, q _ _ _ _ r1.pop.pushBl hk⟩
def dAnd (ta tb : DTE) : DTE := fun env k kx => ta env (fun w e1 => kTru w e1 fun c e2 => if c = true then tb e2 k kx else k w e2) kx
def dOr (ta tb : DTE) : DTE := fun env k kx => ta env (fun w e1 => kTru w e1 fun c e2 => if c = true then k w e2 else tb e2 k kx) kx
theorem de_one {op} (ha : DE X a ta) : DE X (.BoolOp op [a] pos) ta := fun Wx tk => let ⟨_, p, q⟩ := ha Wx tk; ⟨_, pe_one p, q⟩
theorem de_and (ha : DE X a ta) (hb : DE X (.BoolOp .And (b :: rest) pos) tb) : DE X (.BoolOp .And (a :: b :: rest) pos) (dAnd ta tb) := fun Wx tk => by
  obtain ⟨te1, p1, h1⟩ := ha Wx tk
  obtain ⟨te2, p2, h2⟩ := hb Wx tk
  refine ⟨_, pe_andT p1 p2, fun z stk vs env σ H Q k kx ok r t q qx => h1 z stk vs env σ H _ _ kx ok r t (fun w env' v H' r1 k1 => ?_) qx⟩
  obtain ⟨a, b, e1, e2, e3, hk⟩ := kTru_elim k1
  refine ⟨b, ok.k ▸ tru_v (r1.look e1) e2 e3, ?_⟩
  cases b with
  | true => exact h2 z stk vs env' σ H' Q k kx ok r1.pop hk q qx
  | false => exact q _ _ _ _ r1 hk
theorem de_or (ha : DE X a ta) (hb : DE X (.BoolOp .Or (b :: rest) pos) tb) : DE X (.BoolOp .Or (a :: b :: rest) pos) (dOr ta tb) := fun Wx tk => by
  obtain ⟨te1, p1, h1⟩ := ha Wx tk
  obtain ⟨te2, p2, h2⟩ := hb Wx tk
  refine ⟨_, pe_orT p1 p2, fun z stk vs env σ H Q k kx ok r t q qx => h1 z stk vs env σ H _ _ kx ok r t (fun w env' v H' r1 k1 => ?_) qx⟩
  obtain ⟨a, b, e1, e2, e3, hk⟩ := kTru_elim k1
  refine ⟨b, ok.k ▸ tru_v (r1.look e1) e2 e3, ?_⟩
  cases b with
  | true => exact q _ _ _ _ r1 hk
  | false => exact h2 z stk vs env' σ H' Q k kx ok r1.pop hk q qx
def dIte (sa : DTT) (ta tb : DTE) : DTE := fun env k kx => sa env (fun c e1 => if c = true then ta e1 k kx else tb e1 k kx) kx
theorem de_ite (hc : DT X c sa) (ha : DE X a ta) (hb : DE X b tb) : DE X (.IfExp c a b pos) (dIte sa ta tb) := fun Wx tk => by
  obtain ⟨te0, p0, h0⟩ := hc Wx tk
  obtain ⟨te1, p1, h1⟩ := ha Wx tk
  obtain ⟨te2, p2, h2⟩ := hb Wx tk
  refine ⟨_, pe_ifExp p0 p1 p2, fun z stk vs env σ H Q k kx ok r t q qx => h0 z stk vs env σ H _ _ kx ok r t (fun c env' H' r1 k1 => ?_) qx⟩
  cases c with
  | true => exact h1 z stk vs env' σ H' Q k kx ok r1 k1 q qx
  | false => exact h2 z stk vs env' σ H' Q k kx ok r1 k1 q qx
def dNeg (ta : DTE) : DTE := fun env k kx => ta env (fun w e1 => match peek e1 w with
  | some (.d (.int i)) => k (.d (.int (-i))) e1
  | _ => False) kx
theorem de_neg (ha : DE X a ta) : DE X (.UnaryOp .USub a pos) (dNeg ta) := fun Wx tk => by
  obtain ⟨te, p, h⟩ := ha Wx tk
  refine ⟨_, pe_un un_neg p, fun z stk vs env σ H Q k kx ok r t q qx => h z stk vs env σ H _ _ kx ok r t (fun w env' v H' r1 k1 => ?_) qx⟩
  split at k1
  · rename_i i h1
    exact ⟨i, rd_int (r1.look h1), q _ _ _ _ r1.pop.pushInt k1⟩
  · exact k1.elim
end
end DL

/-! DL8: argument lists, displays, subscripts, slices. -/
namespace DL
open PySem PySem.Spec
open PyProof.Rows L2
section
variable {X : Cx} {e a b c : Expr} {ta tb tc : DTE} {pos : Pos} {es : List Expr} {tr : DTA}
def dNil : DTA := fun env k _ => k [] env
def dCons (ta : DTE) (tr : DTA) : DTA := fun env k kx => ta env (fun w e1 => tr e1 (fun ws e2 => k (w :: ws) e2) kx) kx
theorem da_nil : DA X [] dNil := fun Wx tk => ⟨_, pa_nil, fun z stk vs env σ H Q k kx ok r t q qx => q [] env [] H rfl r t⟩
theorem da_cons (hp : Pl e) (ha : DE X e ta) (hr : DA X es tr) : DA X (e :: es) (dCons ta tr) := fun Wx tk => by
  obtain ⟨te1, p1, h1⟩ := ha Wx tk
  obtain ⟨te2, p2, h2⟩ := hr Wx tk
  refine ⟨_, pa_cons p1 p2 (hp.star _ _), fun z stk vs env σ H Q k kx ok r t q qx => h1 z stk vs env σ H _ _ kx ok r t (fun w env' v H' r1 k1 => ?_) qx⟩
  refine h2 z _ _ env' σ H' _ _ kx ok r1 k1 (fun ws env2 us H2 l r2 k2 => ?_) fun x e c d H' rx => qx x e c d H' rx.pop
  exact q (w :: ws) env2 (v :: us) H2 (congrArg Nat.succ l) (Rel.up r2 l) k2
/-! a row of values taken -/
def useWs : List W → Env → (List W → Env → Prop) → Prop
  | [], env, k => k [] env
  | w :: ws, env, k => useW w env fun w' e1 => useWs ws e1 fun ws' e2 => k (w' :: ws') e2
def useDs : List W → Env → (List D → Env → Prop) → Prop
  | [], env, k => k [] env
  | w :: ws, env, k => useD w env fun w' e1 => useDs ws e1 fun ws' e2 => k (w' :: ws') e2
theorem Rel.useWs : ∀ {ws : List W} {z : Z} {stk : List W} {us vs : List V} {env : Env} {σ : St} {H : Hp} {k : List W → Env → Prop}, Rel z (ws ++ stk) (us ++ vs) env σ H → us.length = ws.length → DL.useWs ws env k →
    ∃ ws' env', ws'.length = ws.length ∧ ws'.all tree = true ∧ nostos ws' = true ∧ Rel z (ws' ++ stk) (us ++ vs) env' σ H ∧ k ws' env'
  | [], _, _, us, _, env, _, _, _, r, l, u => ⟨[], env, rfl, rfl, rfl, r, u⟩
  | w :: ws, _, _, [], _, _, _, _, _, _, l, _ => by cases l
  | w :: ws, z, stk, v :: us, vs, env, σ, H, k, r, l, u => by
    obtain ⟨w', e1, t1, n1, r1, u1⟩ := Rel.useW r u
    have l' := Nat.succ.inj l
    obtain ⟨ws', e2, l2, t2, n2, r2, u2⟩ := Rel.useWs (Rel.down r1 l') l' u1
    refine ⟨w' :: ws', e2, congrArg Nat.succ l2, ?_, ?_, Rel.up r2 (by rw [l2]; exact l'), u2⟩
    · show (tree w' && ws'.all tree) = true
      rw [t1, t2]; rfl
    · show (nosto w' && nostos ws') = true
      rw [n1, n2]; rfl
theorem Rel.useDs : ∀ {ws : List W} {z : Z} {stk : List W} {us vs : List V} {env : Env} {σ : St} {H : Hp} {k : List D → Env → Prop}, Rel z (ws ++ stk) (us ++ vs) env σ H → us.length = ws.length → DL.useDs ws env k →
    ∃ xs env', xs.length = ws.length ∧ Rel z (xs.map .d ++ stk) (us ++ vs) env' σ H ∧ k xs env'
  | [], _, _, us, _, env, _, _, _, r, l, u => ⟨[], env, rfl, r, u⟩
  | w :: ws, _, _, [], _, _, _, _, _, _, l, _ => by cases l
  | w :: ws, z, stk, v :: us, vs, env, σ, H, k, r, l, u => by
    obtain ⟨w', e1, r1, u1⟩ := Rel.useD r u
    have l' := Nat.succ.inj l
    obtain ⟨ws', e2, l2, r2, u2⟩ := Rel.useDs (Rel.down r1 l') l' u1
    exact ⟨w' :: ws', e2, congrArg Nat.succ l2, Rel.up r2 (by rw [List.length_map, l2]; exact l'), u2⟩
/-! displays -/
def dLst (tr : DTA) : DTE := fun env k kx => tr env (fun ws e1 => useWs ws e1 fun ws' e2 => ws'.length ≤ sizeLine ∧ k (.ol ws') e2) kx
def dTup (tr : DTA) : DTE := fun env k kx => tr env (fun ws e1 => useWs ws e1 fun ws' e2 => ws'.length ≤ sizeLine ∧ k (.ot ws') e2) kx
theorem de_lst (h : DA X es tr) : DE X (.List es pos) (dLst tr) := fun Wx tk => by
  obtain ⟨te, p, h⟩ := h Wx tk
  refine ⟨_, pe_lst p, fun z stk vs env σ H Q k kx ok r t q qx => h z stk vs env σ H _ _ kx ok r t (fun ws env' us H' l r1 k1 => ?_) qx⟩
  obtain ⟨ws', e2, l2, t2, _, r2, hl, hk⟩ := r1.useWs l k1
  exact ⟨by rw [l, ← l2]; exact hl, fun p hp => q _ _ _ _ (r2.newL (by rw [l, l2]) t2 hp ok.op) hk⟩
theorem de_tup {x1} (h : DA X es tr) : DE X (.Tuple es x1 pos) (dTup tr) := fun Wx tk => by
  obtain ⟨te, p, h⟩ := h Wx tk
  refine ⟨_, pe_tup p, fun z stk vs env σ H Q k kx ok r t q qx => h z stk vs env σ H _ _ kx ok r t (fun ws env' us H' l r1 k1 => ?_) qx⟩
  obtain ⟨ws', e2, l2, t2, _, r2, hl, hk⟩ := r1.useWs l k1
  exact ⟨by rw [l, ← l2]; exact hl, fun p hp => q _ _ _ _ (r2.newT (by rw [l, l2]) t2 hp ok.op) hk⟩
/-! a[b] -/
theorem repws_at {z : Z} {G H : Hp} : ∀ {ws : List W} {us : List V} {as : List Addr} {j : Nat} {x : D}, RepWs z G H ws us as → ws[j]? = some (.d x) → ∃ u, us[j]? = some u ∧ Rep z G x u
  | [], _, _, _, _, _, e => by simp at e
  | w :: _, _, _, 0, x, ⟨v, vs', _, _, q, _, r, _⟩, e => by
    have e0 : w = .d x := by simpa using e
    subst q e0
    exact ⟨v, rfl, r.2⟩
  | _ :: _, _, _, j + 1, x, ⟨v, vs', _, _, q, _, _, r⟩, e => by
    subst q
    obtain ⟨u, h1, h2⟩ := repws_at (j := j) r (by simpa using e)
    exact ⟨u, by simpa using h1, h2⟩
theorem RepW.row {z : Z} {G H : Hp} {w : W} {v : V} {as : List Addr} {kd : SeqK} {ws : List W} (g : Same G H) (r : RepW z G H w v as) (h : seqW w = some (kd, ws)) : ∃ p us bs, v = .ref p ∧ SqK z.K H p us kd ∧ us.length = ws.length ∧ RepWs z G H ws us bs := by
  have len : ∀ {ws : List W} {us : List V} {as : List Addr}, RepWs z G H ws us as → us.length = ws.length := fun {ws us as} h => (repws_rds g h).len
  cases w with
  | d x =>
    obtain ⟨_, r⟩ := r
    cases x with
    | lst xs => cases h; obtain ⟨a, us, q, s, r⟩ := r; exact ⟨a, us, _, q, g _ _ s, len (reps_ws (H := H) r), reps_ws r⟩
    | klst xs => cases h; obtain ⟨a, us, q, s, r⟩ := r; exact ⟨a, us, _, q, g.seq s, len (reps_ws (H := H) r), reps_ws r⟩
    | tup xs => cases h; obtain ⟨a, us, q, s, r⟩ := r; exact ⟨a, us, _, q, Same.tup g s, len (reps_ws (H := H) r), reps_ws r⟩
    | cel xs => cases h; obtain ⟨_, a, us, q, s, r⟩ := r; exact ⟨a, us, _, q, g _ _ s, len (reps_ws (H := H) r), reps_ws r⟩
    | _ => cases h
  | ol ws => cases h; obtain ⟨a, us, as', q, _, e, r⟩ := r; exact ⟨a, us, _, q, e, len r, r⟩
  | oL ws => cases h; obtain ⟨a, us, as', _, q, _, e, r⟩ := r; exact ⟨a, us, _, q, e, len r, r⟩
  | ot ws => cases h; obtain ⟨a, us, as', q, _, e, r⟩ := r; exact ⟨a, us, _, q, SqT.of e, len r, r⟩
  | _ => cases h
theorem atI_some {α : Type} {xs : List α} {i : Int} {x : α} (h : atI xs i = some x) : ∃ j, ixN xs.length i = some j ∧ xs[j]? = some x := by
  unfold atI at h
  cases e : ixN xs.length i with
  | none => rw [e] at h; cases h
  | some j => rw [e] at h; exact ⟨j, rfl, h⟩
theorem atI_of {α β : Type} {xs : List α} {ys : List β} {i : Int} {j : Nat} {y : β} (hl : ys.length = xs.length) (h : ixN xs.length i = some j) (e : ys[j]? = some y) : atI ys i = some y := by
  unfold atI
  rw [hl, h]
  exact e
def rowOf : D → Option (List D)
  | .lst xs => some xs
  | .klst xs => some xs
  | .tup xs => some xs
  | _ => none
/-- an item; an owned item freezes the row -/
def kItem (wa : W) (i : Int) (env : Env) (k : DK) : Prop := match peek env wa with
  | some (.d (.str s)) => match atI s i with
    | some c => s.length ≤ sizeLine ∧ k (.d (.str [c])) env
    | none => False
  | some a => match (seqW a).bind fun p => atI p.2 i with
    | some (.d x) => k (.d x) env
    | some _ => useD wa env fun x e1 => match (rowOf x).bind fun xs => atI xs i with
      | some y => k (.d y) e1
      | none => False
    | none => False
  | none => False
def sIx : DOp := fun wa wb env k => match peek env wb with
  | some (.d (.int i)) => kItem wa i env k
  | _ => False
theorem kItem_d {z : Z} {stk : List W} {vs : List V} {env : Env} {σ : St} {H : Hp} {wa : W} {va : V} {a : W} {i : Int} {x : D} {Q : VK} {k : DK} (r : Rel z (wa :: stk) (va :: vs) env σ H) (h1 : peek env wa = some a) (h2 : (seqW a).bind (fun p => atI p.2 i) = some (.d x)) (hk : k (.d x) env)
    (q : ∀ w env' v H', Rel z (w :: stk) (v :: vs) env' σ H' → k w env' → Q v H') : rIx z.K va (.int i) H Q := by
  obtain ⟨G, rg⟩ := r
  obtain ⟨as, ra⟩ := RelG.view rg h1
  cases e : seqW a with
  | none => rw [e] at h2; cases h2
  | some p =>
    obtain ⟨kd, ws⟩ := p
    rw [e] at h2
    obtain ⟨j, h3, h4⟩ := atI_some (show atI ws i = some (.d x) from h2)
    obtain ⟨pa, us, bs, ev, sq, l, rws⟩ := ra.row (RelG.core rg).gh e
    obtain ⟨u, h5, h6⟩ := repws_at rws h4
    have hq := q _ _ _ _ (Rel.pop (Rel.swap (RelG.r (RelG.push1 rg h6)))) hk
    have ha : atI us i = some u := atI_of l h3 h5
    subst ev
    cases kd with
    | l => exact .inl ⟨pa, us, i, u, rfl, rfl, SqL.of sq, ha, hq⟩
    | r => exact .inl ⟨pa, us, i, u, rfl, rfl, sq, ha, hq⟩
    | t => exact .inr (.inl ⟨pa, us, i, u, rfl, rfl, sq, ha, hq⟩)
theorem atI_map {α β : Type} (f : α → β) (xs : List α) (i : Int) : atI (xs.map f) i = (atI xs i).map f := by
  unfold atI
  rw [List.length_map]
  cases ixN xs.length i with
  | none => rfl
  | some j => show (xs.map f)[j]? = (xs[j]?).map f; rw [List.getElem?_map]
theorem seqW_row {x : D} {xs : List D} (h : rowOf x = some xs) : ∃ kd, seqW (.d x) = some (kd, xs.map .d) := by
  cases x <;> first | (cases h; exact ⟨_, rfl⟩) | cases h
theorem opd_ix : OpD X (rIx X.K) sIx := fun z stk vs env σ H Q k wa wb va vb ok r h q => by
  unfold sIx at h
  split at h
  · rename_i i h2
    have e2 := rd_int (r.look h2)
    subst e2
    rw [← ok.k]
    unfold kItem at h
    split at h
    · rename_i s h1
      have e1 := rd_str (r.look2 h1)
      subst e1
      split at h
      · rename_i c hc
        exact .inr (.inr ⟨_, i, c, rfl, rfl, by rw [str_len]; exact h.1, hc, q _ _ _ _ r.pop.pop.pushStr h.2⟩)
      · exact h.elim
    · rename_i a _ h1
      split at h
      · rename_i x hx
        exact kItem_d r.pop h1 hx h q
      · obtain ⟨x, e1, r1, h3⟩ := r.pop.useD h
        split at h3
        · rename_i y hy
          cases e : rowOf x with
          | none => rw [e] at hy; cases hy
          | some xs =>
            rw [e] at hy
            obtain ⟨kd, es⟩ := seqW_row e
            refine kItem_d (a := .d x) (x := y) r1 rfl ?_ h3 q
            rw [es]
            show atI (xs.map W.d) i = some (.d y)
            rw [atI_map, show atI xs i = some y from hy]; rfl
        · exact h3.elim
      · exact h.elim
    · exact h.elim
  · exact h.elim
theorem de_ix (hp : Pl b) (ha : DE X a ta) (hb : DE X b tb) : DE X (.Subscript a b pos) (dOp sIx ta tb) := de_op (fun h h' => pe_ix ix_seq h h' hp.ix) opd_ix ha hb
/-! slices -/
abbrev DTO := Env → (Option Int → Env → Prop) → XC → Prop
def DO (X : Cx) (e : Option Expr) (t : DTO) : Prop := ∀ Wx, L2N.Takes X Wx → ∃ te, PO X e te ∧ ∀ z stk vs env σ H (Q : Option Int → Hp → Prop) (k : Option Int → Env → Prop) (kx : XC), Okz X z → Rel z stk vs env σ H → t env k kx →
  (∀ o env' H', Rel z stk vs env' σ H' → k o env' → Q o H') → (∀ x env' cls d H', RelX z stk vs x cls d env' σ H' → kx x env' → Wx cls d σ H') → te σ H Q
def dNo : DTO := fun env k _ => k none env
def dSo (ta : DTE) : DTO := fun env k kx => ta env (fun w e1 => match peek e1 w with
  | some (.d (.int i)) => k (some i) e1
  | _ => False) kx
theorem do_no : DO X none dNo := fun Wx tk => ⟨_, po_none, fun z stk vs env σ H Q k kx ok r t q qx => q none env H r t⟩
theorem do_so (ha : DE X a ta) : DO X (some a) (dSo ta) := fun Wx tk => by
  obtain ⟨te, p, h⟩ := ha Wx tk
  refine ⟨_, po_some p, fun z stk vs env σ H Q k kx ok r t q qx => h z stk vs env σ H _ _ kx ok r t (fun w env' v H' r1 k1 => ?_) qx⟩
  split at k1
  · rename_i i h1
    exact ⟨i, rd_int (r1.look h1), q _ _ _ r1.pop k1⟩
  · exact k1.elim
def cutL {α : Type} (xs : List α) (lo hi : Option Int) : List α := (xs.drop (HT.sIx xs.length 0 lo)).take (HT.sIx xs.length xs.length hi - HT.sIx xs.length 0 lo)
def kSl (wa : W) (lo hi : Option Int) (env : Env) (k : DK) : Prop := match peek env wa with
  | some (.d (.str s)) => s.length ≤ sizeLine ∧ k (.d (.str (cutL s lo hi))) env
  | _ => rowD wa env fun kd xs e1 => match kd with
    | .t => ¬ (HT.sIx xs.length 0 lo = 0 ∧ HT.sIx xs.length xs.length hi = xs.length) ∧ k (.ot ((cutL xs lo hi).map .d)) e1
    | _ => k (.ol ((cutL xs lo hi).map .d)) e1
def dSl (ta : DTE) (tl th : DTO) : DTE := fun env k kx => ta env (fun wa e1 => tl e1 (fun lo e2 => th e2 (fun hi e3 => kSl wa lo hi e3 k) kx) kx) kx
theorem SlR.or {r r' : V → Option Int → Option Int → Hp → VK → Prop} (h : SlR X r) (h' : SlR X r') : SlR X (fun x lo hi H Q => r x lo hi H Q ∨ r' x lo hi H Q) := fun pins s σ H x v vl vu lo hi sl Q I rx hs pl pu q => q.elim (h pins s σ H x v vl vu lo hi sl Q I rx hs pl pu) (h' pins s σ H x v vl vu lo hi sl Q I rx hs pl pu)
theorem reps_take {z : Z} {G : Hp} : ∀ {xs : List D} {us : List V} (n : Nat), Reps z G xs us → Reps z G (xs.take n) (us.take n)
  | _, _, 0, _ => by rw [List.take_zero, List.take_zero]; rfl
  | [], _, n + 1, q => by cases q; rfl
  | _ :: _, _, n + 1, ⟨v, vs, q, r, r2⟩ => by subst q; exact ⟨v, _, rfl, r, reps_take n r2⟩
theorem reps_drop {z : Z} {G : Hp} : ∀ {xs : List D} {us : List V} (n : Nat), Reps z G xs us → Reps z G (xs.drop n) (us.drop n)
  | _, _, 0, h => h
  | [], _, n + 1, q => by cases q; rfl
  | _ :: _, _, n + 1, ⟨v, vs, q, r, r2⟩ => by subst q; exact reps_drop n r2
theorem reps_cut {z : Z} {G : Hp} {xs : List D} {us : List V} (lo hi : Option Int) (r : Reps z G xs us) (l : us.length = xs.length) : Reps z G (cutL xs lo hi) (cutV us lo hi) := by
  unfold cutL cutV
  rw [l]
  exact reps_take _ (reps_drop _ r)
theorem repsLen {z : Z} {G : Hp} {xs : List D} {us : List V} (r : Reps z G xs us) : us.length = xs.length := by
  have := (reps_rds (H := G) (Same.refl G) r).len
  rw [List.length_map] at this; exact this
theorem de_sl {lo hi : Option Expr} {tl th : DTO} {p2 : Pos} (ha : DE X a ta) (hl : DO X lo tl) (hh : DO X hi th) : DE X (.Subscript a (.Slice lo hi none p2) pos) (dSl ta tl th) := fun Wx tk => by
  obtain ⟨te1, p1, h1⟩ := ha Wx tk
  obtain ⟨te2, p2, h2⟩ := hl Wx tk
  obtain ⟨te3, p3, h3⟩ := hh Wx tk
  refine ⟨_, pe_slice (SlR.or sl_str (SlR.or sl_list sl_tup)) p1 p2 p3, fun z stk vs env σ H Q k kx ok r t q qx => h1 z stk vs env σ H _ _ kx ok r t (fun w env' v H' r1 k1 => ?_) qx⟩
  refine h2 z _ _ env' σ H' _ _ kx ok r1 k1 (fun lo env2 H2 r2 k2 => ?_) fun x e c d H' rx => qx x e c d H' rx.pop
  refine h3 z _ _ env2 σ H2 _ _ kx ok r2 k2 (fun hi env3 H3 r3 k3 => ?_) fun x e c d H' rx => qx x e c d H' rx.pop
  unfold kSl at k3
  split at k3
  · rename_i s hs
    have es := rd_str (r3.look hs)
    subst es
    refine .inl ⟨_, rfl, by rw [str_len]; exact k3.1, ?_⟩
    have e : cutS ⟨s.toArray⟩ lo hi = ⟨(cutL s lo hi).toArray⟩ := by
      unfold cutS cutL
      rw [str_len]
    rw [e]
    exact q _ _ _ _ r3.pop.pushStr k3.2
  · obtain ⟨kd, xs, e4, a, us, ea, sa, la, r4, k4⟩ := r3.rowD k3
    obtain ⟨G, rg, rp⟩ := r4.ds la
    have rc := reps_cut lo hi rp la
    have r5 := RelG.push rg rc
    subst ea
    have lc : (cutV us lo hi).length = ((cutL xs lo hi).map W.d).length := by rw [List.length_map]; exact repsLen rc
    cases kd with
    | l => exact .inr (.inl ⟨a, us, rfl, ok.k ▸ SqL.of sa, fun p hp => q _ _ _ _ (r5.r.newL lc all_tree hp ok.op) k4⟩)
    | r => exact .inr (.inl ⟨a, us, rfl, ok.k ▸ sa, fun p hp => q _ _ _ _ (r5.r.newL lc all_tree hp ok.op) k4⟩)
    | t => exact .inr (.inr ⟨a, us, rfl, ok.k ▸ sa, by rw [la]; exact k4.1, fun p hp => q _ _ _ _ (r5.r.newT lc all_tree hp ok.op) k4.2⟩)
end
end DL

/-! DL9: built-in functions. -/
namespace DL
open PySem PySem.Spec
open PyProof.Rows L2
abbrev DCl := List W → Env → DK → Prop
def dCl (s : DCl) (tr : DTA) : DTE := fun env k kx => tr env (fun ws e1 => s ws e1 k) kx
section
variable {X : Cx} {e a b c o : Expr} {ta tb tc to : DTE} {pos p apos : Pos} {es : List Expr} {tr : DTA} {x : Str} {id T : String}
def CallD (X : Cx) (r : List V → Hp → VK → Prop) (s : DCl) : Prop := ∀ z stk vs env σ H (Q : VK) (k : DK) ws us, Okz X z → Rel z (ws ++ stk) (us ++ vs) env σ H → us.length = ws.length → s ws env k →
  (∀ w env' v H', Rel z (w :: stk) (v :: vs) env' σ H' → k w env' → Q v H') → r us H Q
/-- all are plain -/
def Pls (es : List Expr) : Prop := ∀ e ∈ es, Pl e
theorem Pls.any {es : List Expr} (h : Pls es) {pos : Pos} {env : PySem.Env} : (backTo pos (starEach es env)).any (·.1) = false := by
  induction es with
  | nil => rfl
  | cons e es ih =>
    rw [(h e List.mem_cons_self).star es env]
    show (false || (backTo pos (starEach es env)).any (·.1)) = false
    rw [ih fun x m => h x (List.mem_cons_of_mem _ m)]; rfl
theorem Pls.tl {e : Expr} {es : List Expr} (h : Pls (e :: es)) : Pls es := fun x m => h x (List.mem_cons_of_mem _ m)
theorem Pls.hd {e : Expr} {es : List Expr} (h : Pls (e :: es)) : Pl e := h e List.mem_cons_self
theorem de_cl {r : List V → Hp → VK → Prop} {s : DCl} {f : Expr} (he : ∀ {t : TA}, PA X es t → PE X f (tCB r t)) (hd : CallD X r s) (ha : DA X es tr) : DE X f (dCl s tr) := fun Wx tk => by
  obtain ⟨te, p, h⟩ := ha Wx tk
  exact ⟨_, he p, fun z stk vs env σ H Q k kx ok rl t q qx => h z stk vs env σ H _ _ kx ok rl t (fun ws env' us H' l r1 k1 => hd z stk vs env' σ H' Q k ws us ok r1 l k1 q) qx⟩
theorem de_callB {r : List V → Hp → VK → Prop} {s : DCl} (hc : CallR X (.builtin id) r) (hd : CallD X r s) (hg : Gl X x) (hm : X.mg x = none) (hv : bootBuiltins x = some (.builtin id)) (hn : x ≠ "__name__") (hdb : (x == ("__debug__" : Str)) = false) (hp : Pls (e :: es)) (ha : DA X (e :: es) tr) :
    DE X (.Call (.Name x p) (e :: es) [] pos) (dCl s tr) := de_cl (fun h => pe_callB hc hg hm hv h hn hdb (hp.hd.star _ _) hp.tl.any) hd ha
theorem de_callT {r : List V → Hp → VK → Prop} {s : DCl} (hc : CallR X (.type T) r) (hd : CallD X r s) (hg : Gl X x) (hm : X.mg x = none) (hv : bootBuiltins x = some (.type T)) (hn : x ≠ "__name__") (hdb : (x == ("__debug__" : Str)) = false) (hp : Pls (e :: es)) (ha : DA X (e :: es) tr) :
    DE X (.Call (.Name x p) (e :: es) [] pos) (dCl s tr) := de_cl (fun h => pe_callTy hc hg hm hv h hn hdb (hp.hd.star _ _) hp.tl.any) hd ha
theorem CallR.or {f : Value} {r r' : List V → Hp → VK → Prop} (h : CallR X f r) (h' : CallR X f r') : CallR X f (fun xs H Q => r xs H Q ∨ r' xs H Q) := fun pins s σ H xs us Q I rv q => q.elim (h pins s σ H xs us Q I rv) (h' pins s σ H xs us Q I rv)
/-- one argument -/
def s1 (f : W → Env → DK → Prop) : DCl := fun ws env k => match ws with
  | [w] => f w env k
  | _ => False
theorem calld1 {r : List V → Hp → VK → Prop} {f : W → Env → DK → Prop} (h : ∀ z stk vs env σ H (Q : VK) (k : DK) w v, Okz X z → Rel z (w :: stk) (v :: vs) env σ H → f w env k → (∀ w env' v H', Rel z (w :: stk) (v :: vs) env' σ H' → k w env' → Q v H') → r [v] H Q) : CallD X r (s1 f) :=
  fun z stk vs env σ H Q k ws us ok rl l u q => by
    unfold s1 at u
    split at u
    · rename_i w
      cases us with
      | nil => cases l
      | cons v us =>
        cases us with
        | nil => exact h z stk vs env σ H Q k w v ok rl u q
        | cons _ _ => cases l
    · exact u.elim
/-- two arguments -/
def s2 (f : W → W → Env → DK → Prop) : DCl := fun ws env k => match ws with
  | [w, w2] => f w w2 env k
  | _ => False
theorem calld2 {r : List V → Hp → VK → Prop} {f : W → W → Env → DK → Prop} (h : ∀ z stk vs env σ H (Q : VK) (k : DK) w v w2 v2, Okz X z → Rel z (w :: w2 :: stk) (v :: v2 :: vs) env σ H → f w w2 env k → (∀ w env' v H', Rel z (w :: stk) (v :: vs) env' σ H' → k w env' → Q v H') → r [v, v2] H Q) : CallD X r (s2 f) :=
  fun z stk vs env σ H Q k ws us ok rl l u q => by
    unfold s2 at u
    split at u
    · rename_i w w2
      cases us with
      | nil => cases l
      | cons v us =>
        cases us with
        | nil => cases l
        | cons v2 us =>
          cases us with
          | nil => exact h z stk vs env σ H Q k w v w2 v2 ok rl u q
          | cons _ _ => cases l
    · exact u.elim
/-! len -/
def lenW (a : W) : Option Nat := match a with
  | .d (.str s) => some s.length
  | .d (.dct kvs) => some kvs.length
  | .od kvs => some kvs.length
  | a => (seqW a).map fun p => p.2.length
def kLen (w : W) (env : Env) (k : DK) : Prop := match peek env w with
  | some a => match lenW a with
    | some n => lenD a ≤ sizeLine ∧ k (.d (.int n)) env
    | none => False
  | none => False
theorem repk_len {z : Z} {G : Hp} : ∀ {xs : List (Key × D)} {us : List (Key × V)}, RepK z G xs us → us.length = xs.length
  | [], _, q => by cases q; rfl
  | (_, _) :: _, _, ⟨v, vs, q, _, r⟩ => by subst q; exact congrArg Nat.succ (repk_len r)
theorem repwk_len {z : Z} {G H : Hp} : ∀ {xs : List (Key × W)} {us : List (Key × V)} {as : List Addr}, RepWk z G H xs us as → us.length = xs.length
  | [], _, _, q => by cases q.1; rfl
  | (_, _) :: _, _, _, ⟨v, vs, _, _, q, _, _, r⟩ => by subst q; exact congrArg Nat.succ (repwk_len r)
def rLenA (K : PySem.W.Frag) : List V → Hp → VK → Prop := fun xs H Q => (∃ x n, xs = [x] ∧ LenV K x H n ∧ Q (.int n) H)
theorem seq_len {z : Z} {H : Hp} {w : W} {v : V} (r : Rd1 z H w v) {p : SeqK × List W} (h : seqW w = some p) : LenV z.K v H p.2.length := by
  obtain ⟨kd, ws⟩ := p
  obtain ⟨a, us, ev, sq, rs⟩ := r.seq h
  subst ev
  have l := rs.len
  cases kd with
  | l => exact .inl ⟨us, SqL.of sq, by rw [l]⟩
  | r => exact .inl ⟨us, sq, by rw [l]⟩
  | t => exact .inr ⟨us, sq, by rw [l]⟩
def noDict : W → Bool
  | .d (.dct _) => false
  | .od _ => false
  | _ => true
def kLenN (w : W) (env : Env) (k : DK) : Prop := match peek env w with
  | some a => match lenW a with
    | some n => noDict a = true ∧ lenD a ≤ sizeLine ∧ k (.d (.int n)) env
    | none => False
  | none => False
theorem cd_len : CallD X (rLenA X.K) (s1 kLenN) := calld1 fun z stk vs env σ H Q k w v ok r u q => by
  unfold kLenN at u
  split at u
  · rename_i a h1
    split at u
    · rename_i n h2
      obtain ⟨nd, hl, hk⟩ := u
      refine ⟨v, n, rfl, ?_, q _ _ _ _ r.pop.pushInt hk⟩
      have rd := r.look h1
      cases a with
      | d x =>
        cases x with
        | str s =>
          cases h2
          have e := rd_str rd
          subst e
          exact ⟨by rw [str_len]; exact hl, by rw [str_len]⟩
        | dct _ => cases nd
        | lst xs => cases h2; exact ok.k ▸ seq_len rd rfl
        | klst xs => cases h2; exact ok.k ▸ seq_len rd rfl
        | tup xs => cases h2; exact ok.k ▸ seq_len rd rfl
        | cel xs => cases h2; exact ok.k ▸ seq_len rd rfl
        | _ => cases h2
      | ol ws => cases h2; exact ok.k ▸ seq_len rd rfl
      | oL ws => cases h2; exact ok.k ▸ seq_len rd rfl
      | ot ws => cases h2; exact ok.k ▸ seq_len rd rfl
      | od _ => cases nd
      | _ => cases h2
    · exact u.elim
  · exact u.elim
/-! int, str, abs, max, min -/
def kInt (w : W) (env : Env) (k : DK) : Prop := match peek env w with
  | some (.d (.int i)) => k (.d (.int i)) env
  | some (.d (.bl b)) => k (.d (.int (if b then 1 else 0))) env
  | some (.d (.str s)) => match PySem.intText? ⟨s.toArray⟩ with
    | some n => s.length ≤ 640 ∧ k (.d (.int n)) env
    | none => False
  | _ => False
def rIntA : List V → Hp → VK → Prop := fun xs H Q => ((∃ i, xs = [.int i] ∧ Q (.int i) H) ∨ ∃ k, xs = [.bl k] ∧ Q (.int (if k then 1 else 0)) H) ∨ ∃ a n, xs = [.str a] ∧ PySem.intText? a = some n ∧ a.length ≤ 640 ∧ Q (.int n) H
theorem call_intA : CallR X (.type "int") rIntA := CallR.or call_int1 call_int_str
theorem cd_int : CallD X rIntA (s1 kInt) := calld1 fun z stk vs env σ H Q k w v ok r u q => by
  unfold kInt at u
  split at u
  · rename_i i h1
    have e := rd_int (r.look h1)
    subst e
    exact .inl (.inl ⟨i, rfl, q _ _ _ _ r.pop.pushInt u⟩)
  · rename_i i h1
    have e := rd_bl (r.look h1)
    subst e
    exact .inl (.inr ⟨i, rfl, q _ _ _ _ r.pop.pushInt u⟩)
  · rename_i s h1
    have e := rd_str (r.look h1)
    subst e
    split at u
    · rename_i n hn
      exact .inr ⟨_, n, rfl, hn, by rw [str_len]; exact u.1, q _ _ _ _ r.pop.pushInt u.2⟩
    · exact u.elim
  · exact u.elim
/-- a number's text -/
def showI (i : Int) : List Nat := (toString i).toList.map Char.toNat
theorem showI_str (i : Int) : (Str.ofString (toString i) : Str) = ⟨(showI i).toArray⟩ := Str.ofString_eq_toList _
def kStr (w : W) (env : Env) (k : DK) : Prop := match peek env w with
  | some (.d (.int i)) => i.natAbs.log2 < 1920 ∧ k (.d (.str (showI i))) env
  | some (.d (.str s)) => k (.d (.str s)) env
  | _ => False
def rStrA : List V → Hp → VK → Prop := fun xs H Q => (∃ i, xs = [.int i] ∧ i.natAbs.log2 < 1920 ∧ Q (.str (toString i)) H) ∨ ∃ a, xs = [.str a] ∧ Q (.str a) H
theorem call_strA : CallR X (.type "str") rStrA := CallR.or call_str_int SkE.call_str_str
theorem cd_str : CallD X rStrA (s1 kStr) := calld1 fun z stk vs env σ H Q k w v ok r u q => by
  unfold kStr at u
  split at u
  · rename_i i h1
    have e := rd_int (r.look h1)
    subst e
    refine .inl ⟨i, rfl, u.1, ?_⟩
    rw [showI_str]
    exact q _ _ _ _ r.pop.pushStr u.2
  · rename_i i h1
    have e := rd_str (r.look h1)
    subst e
    exact .inr ⟨_, rfl, q _ _ _ _ r.pop.pushStr u⟩
  · exact u.elim
def kRepr (w : W) (env : Env) (k : DK) : Prop := match peek env w with
  | some (.d (.int i)) => i.natAbs.log2 < 1920 ∧ k (.d (.str (showI i))) env
  | some (.d (.bl b)) => k (.d (.str (if b then [84, 114, 117, 101] else [70, 97, 108, 115, 101]))) env
  | some (.d .non) => k (.d (.str [78, 111, 110, 101])) env
  | _ => False
def rReprA : List V → Hp → VK → Prop := fun xs H Q => (∃ i, xs = [.int i] ∧ i.natAbs.log2 < 1920 ∧ Q (.str (toString i)) H) ∨ (∃ b, xs = [.bl b] ∧ Q (.str ((if b then "True" else "False" : String) : Str)) H) ∨ (xs = [.non] ∧ Q (.str ("None" : Str)) H)
theorem call_reprA : CallR X (.builtin "repr") rReprA := by
  refine CallR.or SkE.call_repr_int (CallR.or ?_ ?_)
  · intro pins s σ H xs us Q I r h
    obtain ⟨i, rfl, q⟩ := h
    cases r with
    | cons r1 r2 =>
      cases r2
      cases r1
      refine PySem.P.repr_of_bool ⟨.str _, H, I.tok _, ⟨_, rfl⟩, ?_⟩
      cases i <;> exact q
  · intro pins s σ H xs us Q I r h
    obtain ⟨rfl, q⟩ := h
    cases r with
    | cons r1 r2 =>
      cases r2
      cases r1
      exact PySem.P.repr_of_none ⟨.str _, H, I.tok _, ⟨_, rfl⟩, q⟩
theorem cd_repr : CallD X rReprA (s1 kRepr) := calld1 fun z stk vs env σ H Q k w v ok r u q => by
  unfold kRepr at u
  split at u
  · rename_i i h1
    have e := rd_int (r.look h1)
    subst e
    refine .inl ⟨i, rfl, u.1, ?_⟩
    rw [showI_str]
    exact q _ _ _ _ r.pop.pushStr u.2
  · rename_i b h1
    have e := rd_bl (r.look h1)
    subst e
    refine .inr (.inl ⟨b, rfl, ?_⟩)
    have e : ((if b then "True" else "False" : String) : Str) = ⟨(if b then [84, 114, 117, 101] else [70, 97, 108, 115, 101] : List Nat).toArray⟩ := by cases b <;> decide +kernel
    rw [e]
    exact q _ _ _ _ r.pop.pushStr u
  · rename_i h1
    have e := rd_non (r.look h1)
    subst e
    refine .inr (.inr ⟨rfl, ?_⟩)
    have e : ("None" : Str) = ⟨([78, 111, 110, 101] : List Nat).toArray⟩ := by decide +kernel
    rw [e]
    exact q _ _ _ _ r.pop.pushStr u
  · exact u.elim
def kAbs (w : W) (env : Env) (k : DK) : Prop := match peek env w with
  | some (.d (.int i)) => k (.d (.int (if i < 0 then -i else i))) env
  | _ => False
theorem cd_abs : CallD X (fun xs H Q => ∃ i, xs = [.int i] ∧ Q (.int (if i < 0 then -i else i)) H) (s1 kAbs) := calld1 fun z stk vs env σ H Q k w v ok r u q => by
  unfold kAbs at u
  split at u
  · rename_i i h1
    have e := rd_int (r.look h1)
    subst e
    exact ⟨i, rfl, q _ _ _ _ r.pop.pushInt u⟩
  · exact u.elim
def kI2 (g : Int → Int → Int) (w w2 : W) (env : Env) (k : DK) : Prop := match peek env w, peek env w2 with
  | some (.d (.int i)), some (.d (.int j)) => k (.d (.int (g i j))) env
  | _, _ => False
theorem cd_i2 {g : Int → Int → Int} : CallD X (fun xs H Q => ∃ i j, xs = [.int i, .int j] ∧ Q (.int (g i j)) H) (s2 (kI2 g)) := calld2 fun z stk vs env σ H Q k w v w2 v2 ok r u q => by
  unfold kI2 at u
  split at u
  · rename_i i j h1 h2
    have e1 := rd_int (r.look h1)
    have e2 := rd_int (r.pop.look h2)
    subst e1 e2
    exact ⟨i, j, rfl, q _ _ _ _ r.pop.pop.pushInt u⟩
  · exact u.elim
/-! rows: list(..), tuple(..), sum, all, any, max, min -/
def kListOf (w : W) (env : Env) (k : DK) : Prop := rowD w env fun _ xs e1 => k (.ol (xs.map .d)) e1
theorem cd_list : CallD X (fun xs H Q => ∃ p ys, xs = [.ref p] ∧ (SqL X.K H p ys ∨ SqT X.K H p ys) ∧ ∀ l, H l = none → Q (.ref l) (upd H l (.lst ys))) (s1 kListOf) := calld1 fun z stk vs env σ H Q k w v ok r u q => by
  obtain ⟨kd, xs, e1, a, us, ea, sa, la, r1, hk⟩ := r.rowD u
  subst ea
  exact ⟨a, us, rfl, ok.k ▸ sqk_or sa, fun p hp => q _ _ _ _ (r1.newL (by rw [List.length_map]; exact la) all_tree hp ok.op) hk⟩
/-- a tuple of a list is new; of a tuple it is the same -/
def kTupOf (w : W) (env : Env) (k : DK) : Prop := match (peek env w).bind seqW with
  | some (.t, _) => useW w env k
  | _ => rowD w env fun kd xs e1 => match kd with
    | .t => False
    | _ => k (.ot (xs.map .d)) e1
theorem cd_tuple : CallD X (fun xs H Q => ∃ p ys, xs = [.ref p] ∧ ((SqL X.K H p ys ∧ ∀ l, H l = none → Q (.ref l) (upd H l (.tup ys))) ∨ (SqT X.K H p ys ∧ Q (.ref p) H))) (s1 kTupOf) := calld1 fun z stk vs env σ H Q k w v ok r u q => by
  unfold kTupOf at u
  split at u
  · rename_i ws h
    cases h1 : peek env w with
    | none => rw [h1] at h; cases h
    | some a =>
      rw [h1] at h
      obtain ⟨p, us, ev, sq, _⟩ := (r.look h1).seq (show seqW a = some (.t, ws) from h)
      obtain ⟨w', e1, _, _, r1, hk⟩ := r.useW u
      subst ev
      exact ⟨p, us, rfl, .inr ⟨ok.k ▸ sq, q _ _ _ _ r1 hk⟩⟩
  · obtain ⟨kd, xs, e1, a, us, ea, sa, la, r1, hk⟩ := r.rowD u
    subst ea
    cases kd with
    | l => exact ⟨a, us, rfl, .inl ⟨ok.k ▸ SqL.of sa, fun p hp => q _ _ _ _ (r1.newT (by rw [List.length_map]; exact la) all_tree hp ok.op) hk⟩⟩
    | r => exact ⟨a, us, rfl, .inl ⟨ok.k ▸ sa, fun p hp => q _ _ _ _ (r1.newT (by rw [List.length_map]; exact la) all_tree hp ok.op) hk⟩⟩
    | t => exact hk.elim
def intsOf : List D → Option (List Int)
  | [] => some []
  | .int i :: xs => (intsOf xs).map (i :: ·)
  | _ => none
def blsOf : List D → Option (List Bool)
  | [] => some []
  | .bl i :: xs => (blsOf xs).map (i :: ·)
  | _ => none
theorem intsOf_eq : ∀ {xs : List D} {ns : List Int}, intsOf xs = some ns → xs = ns.map .int
  | [], _, h => by cases h; rfl
  | .int i :: xs, ns, h => by
    have h : (intsOf xs).map (i :: ·) = some ns := h
    cases e : intsOf xs with
    | none => rw [e] at h; cases h
    | some ys => rw [e] at h; cases h; rw [intsOf_eq e]; rfl
theorem intsOf_map : ∀ {ns : List Int}, intsOf (ns.map .int) = some ns
  | [] => rfl
  | x :: xs => by show (intsOf (xs.map .int)).map (x :: ·) = _; rw [intsOf_map]; rfl
theorem blsOf_eq : ∀ {xs : List D} {ns : List Bool}, blsOf xs = some ns → xs = ns.map .bl
  | [], _, h => by cases h; rfl
  | .bl i :: xs, ns, h => by
    have h : (blsOf xs).map (i :: ·) = some ns := h
    cases e : blsOf xs with
    | none => rw [e] at h; cases h
    | some ys => rw [e] at h; cases h; rw [blsOf_eq e]; rfl
theorem blsOf_map : ∀ {ns : List Bool}, blsOf (ns.map .bl) = some ns
  | [] => rfl
  | x :: xs => by show (blsOf (xs.map .bl)).map (x :: ·) = _; rw [blsOf_map]; rfl
theorem reps_ints {z : Z} {G : Hp} : ∀ {ns : List Int} {us : List V}, Reps z G (ns.map .int) us → us = ns.map .int
  | [], _, q => q
  | _ :: _, _, ⟨v, vs, q, r, r2⟩ => by subst q; rw [reps_ints r2]; cases r; rfl
theorem reps_bls {z : Z} {G : Hp} : ∀ {ns : List Bool} {us : List V}, Reps z G (ns.map .bl) us → us = ns.map .bl
  | [], _, q => q
  | _ :: _, _, ⟨v, vs, q, r, r2⟩ => by subst q; rw [reps_bls r2]; cases r; rfl
def kInts (f : List Int → (D → Prop) → Prop) (w : W) (env : Env) (k : DK) : Prop := rowD w env fun kd xs e1 => match kd, intsOf xs with
  | .t, _ => False
  | _, some ns => f ns fun x => k (.d x) e1
  | _, none => False
theorem kInts_elim {f : List Int → (D → Prop) → Prop} {z : Z} {stk : List W} {vs : List V} {env : Env} {σ : St} {H : Hp} {w : W} {v : V} {k : DK} (r : Rel z (w :: stk) (v :: vs) env σ H) (u : kInts f w env k) :
    ∃ a ns env', v = .ref a ∧ SqL z.K H a (ns.map .int) ∧ Rel z stk vs env' σ H ∧ f ns fun x => k (.d x) env' := by
  obtain ⟨kd, xs, e1, a, us, ea, sa, la, r1, hk⟩ := r.rowD u
  cases e : intsOf xs with
  | none => cases kd <;> (simp only [e] at hk)
  | some ns =>
    have ex := intsOf_eq e
    obtain ⟨G, rg, rp⟩ := r1.ds la
    rw [ex] at rp
    have eu := reps_ints rp
    subst eu
    cases kd with
    | l => simp only [e] at hk; exact ⟨a, ns, e1, ea, SqL.of sa, RelG.r rg, hk⟩
    | r => simp only [e] at hk; exact ⟨a, ns, e1, ea, sa, RelG.r rg, hk⟩
    | t => exact hk.elim
theorem cd_sum : CallD X (rSum X.K) (s1 (kInts fun ns q => q (.int ns.sum))) := calld1 fun z stk vs env σ H Q k w v ok r u q => by
  obtain ⟨a, ns, e1, ea, sa, r1, hk⟩ := kInts_elim r u
  exact ⟨a, ns, by rw [ea], ok.k ▸ sa, q _ _ _ _ r1.pushInt hk⟩
theorem cd_max1 : CallD X (rMax X.K) (s1 (kInts fun ns q => ns ≠ [] ∧ ∀ m, m ∈ ns → (∀ y ∈ ns, y ≤ m) → q (.int m))) := calld1 fun z stk vs env σ H Q k w v ok r u q => by
  obtain ⟨a, ns, e1, ea, sa, r1, hn, hk⟩ := kInts_elim r u
  refine ⟨a, ns, by rw [ea], ok.k ▸ sa, ?_, fun m h1 h2 => q _ _ _ _ r1.pushInt (hk m h1 h2)⟩
  cases ns with
  | nil => exact absurd rfl hn
  | cons _ _ => exact Nat.succ_pos _
theorem cd_min1 : CallD X (rMin X.K) (s1 (kInts fun ns q => ns ≠ [] ∧ ∀ m, m ∈ ns → (∀ y ∈ ns, m ≤ y) → q (.int m))) := calld1 fun z stk vs env σ H Q k w v ok r u q => by
  obtain ⟨a, ns, e1, ea, sa, r1, hn, hk⟩ := kInts_elim r u
  refine ⟨a, ns, by rw [ea], ok.k ▸ sa, ?_, fun m h1 h2 => q _ _ _ _ r1.pushInt (hk m h1 h2)⟩
  cases ns with
  | nil => exact absurd rfl hn
  | cons _ _ => exact Nat.succ_pos _
def kBls (f : List Bool → Bool) (w : W) (env : Env) (k : DK) : Prop := rowD w env fun kd xs e1 => match kd, blsOf xs with
  | .t, _ => False
  | _, some ns => k (.d (.bl (f ns))) e1
  | _, none => False
theorem cd_bls {f : List Bool → Bool} : CallD X (fun vs H Q => ∃ (a : Addr) (bs : List Bool), vs = [V.ref a] ∧ SqL X.K H a (bs.map V.bl) ∧ Q (.bl (f bs)) H) (s1 (kBls f)) := calld1 fun z stk vs env σ H Q k w v ok r u q => by
  obtain ⟨kd, xs, e1, a, us, ea, sa, la, r1, hk⟩ := r.rowD u
  cases e : blsOf xs with
  | none => cases kd <;> (simp only [e] at hk)
  | some ns =>
    have ex := blsOf_eq e
    obtain ⟨G, rg, rp⟩ := r1.ds la
    rw [ex] at rp
    have eu := reps_bls rp
    subst eu
    cases kd with
    | l => simp only [e] at hk; exact ⟨a, ns, by rw [ea], ok.k ▸ SqL.of sa, q _ _ _ _ (RelG.r rg).pushBl hk⟩
    | r => simp only [e] at hk; exact ⟨a, ns, by rw [ea], ok.k ▸ sa, q _ _ _ _ (RelG.r rg).pushBl hk⟩
    | t => exact hk.elim
/-! isinstance, of a built-in class -/
def tyN : W → Option String
  | .d .non => some "NoneType"
  | .d (.bl _) => some "bool"
  | .d (.int _) => some "int"
  | .d (.str _) => some "str"
  | .d (.lst _) => some "list"
  | .d (.klst _) => some "list"
  | .d (.tup _) => some "tuple"
  | .d (.dct _) => some "dict"
  | .ol _ => some "list"
  | .ot _ => some "tuple"
  | .od _ => some "dict"
  | _ => none
theorem tyX_seq {K : PySem.W.Frag} {H : Hp} {a : Addr} {us : List V} {kd : SeqK} (h : SqK K H a us kd) : TyX K H (.ref a) (.type (match kd with | .t => "tuple" | _ => "list")) := by
  cases kd with
  | l => exact .base (.lst h)
  | r =>
    rcases h with (h | ⟨o, h⟩) | ⟨o, its, n, hk, hc, _⟩
    · exact .base (.lst h)
    · exact .base (.frz h)
    · exact .kList hk hc
  | t =>
    rcases h with (h | ⟨o, h⟩) | ⟨o, its, n, hk, hc, _⟩
    · exact .base (.tup h)
    · exact .fTuple h
    · exact .kTuple hk hc
theorem rd_tyX {z : Z} {H : Hp} {w : W} {v : V} {n : String} (h : Rd1 z H w v) (t : tyN w = some n) : TyX z.K H v (.type n) := by
  cases w with
  | d x =>
    cases x with
    | non => cases t; cases rd_non h; exact .base .non
    | bl _ => cases t; cases rd_bl h; exact .base (.bl _)
    | int _ => cases t; cases rd_int h; exact .base (.int _)
    | str _ => cases t; cases rd_str h; exact .base (.str _)
    | lst _ => cases t; obtain ⟨a, us, q, s, _⟩ := h.seq rfl; subst q; exact tyX_seq s
    | klst _ => cases t; obtain ⟨a, us, q, s, _⟩ := h.seq rfl; subst q; exact tyX_seq s
    | tup _ => cases t; obtain ⟨a, us, q, s, _⟩ := h.seq rfl; subst q; exact tyX_seq s
    | dct _ => cases t; obtain ⟨G, _, g, _, a, us, q, s, _⟩ := h; subst q; exact .base (.dK (g _ _ s))
    | _ => cases t
  | ol _ => cases t; obtain ⟨a, us, q, s, _⟩ := h.seq rfl; subst q; exact tyX_seq s
  | ot _ => cases t; obtain ⟨a, us, q, s, _⟩ := h.seq rfl; subst q; exact tyX_seq s
  | od _ => cases t; obtain ⟨G, _, g, a, us, _, q, _, s, _⟩ := h; subst q; exact .base (.dK s)
  | _ => cases t
def kIsi (w w2 : W) (env : Env) (k : DK) : Prop := match (peek env w).bind tyN, peek env w2 with
  | some t, some (.d (.ty c)) => match kitB t c with
    | some b => k (.d (.bl b)) env
    | none => False
  | _, _ => False
theorem cd_isi : CallD X (rIsi X.K) (s2 kIsi) := calld2 fun z stk vs env σ H Q k w v w2 v2 ok r u q => by
  unfold kIsi at u
  split at u
  · rename_i t c h1 h2
    split at u
    · rename_i b hb
      cases h3 : peek env w with
      | none => rw [h3] at h1; cases h1
      | some a =>
        rw [h3] at h1
        have e2 : v2 = .ty c := let ⟨_, _, _, _, q⟩ := r.pop.look h2; q
        subst e2
        exact ⟨v, .ty c, .type t, .type c, b, rfl, .ty c, ok.k ▸ rd_tyX (r.look h3) h1, kit_ty hb, q _ _ _ _ r.pop.pop.pushBl u⟩
    · exact u.elim
  · exact u.elim
end
end DL

/-! DL10: methods of built-in classes; lists that are changed. -/
namespace DL
open PySem PySem.Spec
open PyProof.Rows L2
/-! changing an owned list -/
section
variable {z : Z} {stk : List W} {vs : List V} {env : Env} {σ : St} {H : Hp} {w : W} {v : V}
theorem repws_snoc {G : Hp} : ∀ {ws : List W} {us : List V} {as bs : List Addr} {w : W} {v : V}, RepWs z G H ws us as → RepW z G H w v bs → RepWs z G H (ws ++ [w]) (us ++ [v]) (as ++ bs)
  | [], _, _, bs, w, v, ⟨q, q2⟩, r => by subst q q2; exact ⟨v, [], bs, [], rfl, by simp, r, rfl, rfl⟩
  | _ :: _, _, _, _, _, _, ⟨v0, vs, a1, a2, q, q2, r, r2⟩, r' => by subst q q2; exact ⟨v0, _, a1, _, rfl, by rw [List.append_assoc], r, repws_snoc r2 r'⟩
theorem repws_set {G : Hp} : ∀ {ws : List W} {us : List V} {as : List Addr} {j : Nat}, RepWs z G H ws us as → j < ws.length → ∃ a1 aj a2, as = a1 ++ (aj ++ a2) ∧ ∀ w v bs, RepW z G H w v bs → RepWs z G H (ws.set j w) (us.set j v) (a1 ++ (bs ++ a2))
  | [], _, _, _, _, h => absurd h (Nat.not_lt_zero _)
  | _ :: _, _, _, 0, ⟨v0, vs, a1, a2, q, q2, r, r2⟩, _ => by subst q q2; exact ⟨[], a1, a2, rfl, fun w v bs r' => ⟨v, vs, bs, a2, rfl, rfl, r', r2⟩⟩
  | _ :: _, _, _, j + 1, ⟨v0, vs, b1, b2, q, q2, r, r2⟩, h => by
    subst q q2
    obtain ⟨a1, aj, a2, e, f⟩ := repws_set (j := j) r2 (Nat.lt_of_succ_lt_succ h)
    subst e
    exact ⟨b1 ++ a1, aj, a2, by simp [List.append_assoc], fun w v bs r' => ⟨v0, _, b1, a1 ++ (bs ++ a2), rfl, by simp [List.append_assoc], r, f w v bs r'⟩⟩
theorem repws_init {G : Hp} : ∀ {ws : List W} {us : List V} {as : List Addr} {w : W}, RepWs z G H (ws ++ [w]) us as → ∃ us' v a1 a2, us = us' ++ [v] ∧ as = a1 ++ a2 ∧ RepWs z G H ws us' a1 ∧ RepW z G H w v a2
  | [], _, _, w, ⟨v, vs, a1, a2, q, q2, r, r2⟩ => by obtain ⟨e, e2⟩ := r2; subst q q2 e e2; exact ⟨[], v, [], a1, rfl, by simp, ⟨rfl, rfl⟩, r⟩
  | _ :: _, _, _, w, ⟨v, vs, a1, a2, q, q2, r, r2⟩ => by
    obtain ⟨us', v', b1, b2, e, e2, r3, r4⟩ := repws_init r2
    subst q q2 e e2
    exact ⟨v :: us', v', a1 ++ b1, b2, rfl, by rw [List.append_assoc], ⟨v, us', a1, b1, rfl, rfl, r, r3⟩, r4⟩
theorem core_upd2 {G : Hp} {a : Addr} {o o' : HO} (c : Core z G H) (ha : H a = some o) (hl : ∃ us, o = .lst us) (hg : G a = none) (how : z.Own a) (hop : z.op = false) : Core z G (upd H a o') := by
  obtain ⟨us, rfl⟩ := hl
  have ne : ∀ {b u}, G b = some u → b ≠ a := fun {b u} e h => by rw [h, hg] at e; cases e
  have h0 : z.H0 a = none := by
    rcases how with h | ⟨h, _⟩
    · exact h
    · rw [hop] at h; cases h
  refine ⟨c.g0, fun b u e => ?_, fun b u e n => ?_, c.fresh, c.sH, fun i hi dx hd => ?_, fun ho s hs => ?_⟩
  · rw [upd_ne (ne e)]; exact c.gh b u e
  · rw [upd_ne (fun h => by rw [h, h0] at e; cases e)]; exact c.keep b u e n
  · obtain ⟨ts, h1, h2⟩ := c.xd i hi dx hd
    exact ⟨ts, by rw [upd_ne (ne_of h1 ha (fun q => nomatch q))]; exact h1, h2⟩
  · have hn : s ≠ a := fun h => (c.sH s hs).2 (by rw [h]; exact h0)
    exact (c.sto ho s hs).of (upd_ne hn)
/-- THE RULE for an owned list in slot i: its place, its items; a new content made of its own items and a tree w on the stack -/
theorem Rel.mut {i : Nat} {ws : List W} (r : Rel z (w :: stk) (v :: vs) env σ H) (hi : env[i]? = some (some (.ol ws))) (ht : tree w = true) (hop : z.op = false) :
    ∃ a us, σ[i]? = some (some (.ref a)) ∧ H a = some (.lst us) ∧ us.length = ws.length ∧
      Rel z stk vs (env.set i (some (.ol (ws ++ [w])))) σ (upd H a (.lst (us ++ [v]))) ∧
      (∀ j, j < ws.length → Rel z stk vs (env.set i (some (.ol (ws.set j w)))) σ (upd H a (.lst (us.set j v)))) := by
  obtain ⟨G, as, bs, ⟨v', vs', a1, a2, q, q2, r1, r2⟩, re, nd, ow, c⟩ := r
  cases q; subst q2
  obtain ⟨v2, b1, bi, b2, e1, e2, ri, h4, _, _⟩ := re.at_ hi
  subst e2
  obtain ⟨a, us, as', ev, ea, ha, rw_⟩ := ri
  subst ev ea
  have l : us.length = ws.length := (repws_rds c.gh rw_).len
  have r1w := r1.w ht
  obtain ⟨hg, how⟩ := ow a (List.mem_append_right _ (List.mem_append_right _ (List.mem_append_left _ List.mem_cons_self)))
  -- nobody else stands at a
  have pm0 : List.Perm (a1 ++ a2 ++ (b1 ++ (a :: as' ++ b2))) (a :: (a1 ++ a2 ++ (b1 ++ (as' ++ b2)))) := by
    have := (List.perm_middle (a := a) (l₁ := a1 ++ a2 ++ b1) (l₂ := as' ++ b2))
    simpa [List.append_assoc] using this
  have nm := (List.nodup_cons.mp ((pm0.nodup_iff).mp nd))
  have agall : ∀ {o : HO}, Ag (a1 ++ a2 ++ (b1 ++ (as' ++ b2))) H (upd H a o) := fun {o} b m => upd_ne (fun h => nm.1 (h ▸ m))
  refine ⟨a, us, e1, ha, l, ?_, fun j hj => ?_⟩
  · have g : Ag (a1 ++ a2 ++ (b1 ++ (as' ++ b2))) H (upd H a (.lst (us ++ [v]))) := agall
    have gB : Ag (b1 ++ b2) H (upd H a (.lst (us ++ [v]))) := fun b m => g b (List.mem_append_right _ ((List.mem_append.mp m).elim (fun h => List.mem_append_left _ h) fun h => List.mem_append_right _ (List.mem_append_right _ h)))
    have ga : Ag as' H (upd H a (.lst (us ++ [v]))) := fun b m => g b (List.mem_append_right _ (List.mem_append_right _ (List.mem_append_left _ m)))
    refine ⟨G, a2, b1 ++ ((a :: (as' ++ a1)) ++ b2), r2.move Z.like_refl Z.sub_refl (Same.refl _) g.l.r, h4 G _ (.ol (ws ++ [w])) _ (Same.refl _) gB ⟨a, us ++ [v], as' ++ a1, rfl, rfl, upd_same, repws_snoc (rw_.move Z.like_refl Z.sub_refl (Same.refl _) ga) (r1w.move Z.like_refl Z.sub_refl (Same.refl _) g.l.l)⟩, ?_, fun b m => ow b ?_, core_upd2 c ha ⟨us, rfl⟩ hg how hop⟩
    · have pm : List.Perm (a :: (a1 ++ a2 ++ (b1 ++ (as' ++ b2)))) (a2 ++ (b1 ++ (a :: (as' ++ a1) ++ b2))) := by
        have p1 : List.Perm (a2 ++ (b1 ++ (a :: (as' ++ a1) ++ b2))) (a :: (a2 ++ (b1 ++ (as' ++ a1 ++ b2)))) := by
          have := (List.perm_middle (a := a) (l₁ := a2 ++ b1) (l₂ := as' ++ a1 ++ b2))
          simpa [List.append_assoc] using this
        refine (List.Perm.cons a ?_).trans p1.symm
        have p2 : List.Perm (a1 ++ (a2 ++ (b1 ++ (as' ++ b2)))) (a2 ++ (b1 ++ (as' ++ (a1 ++ b2)))) := by
          have h1 := List.perm_append_comm_assoc a1 (a2 ++ b1 ++ as') b2
          simpa [List.append_assoc] using h1
        simpa [List.append_assoc] using p2
      exact (pm.nodup_iff).mp ((pm0.nodup_iff).mp nd)
    · simp only [List.mem_append, List.mem_cons] at m ⊢
      rcases m with m | m | (m | m | m) | m <;> simp [m]
  · obtain ⟨c1, cj, c2, ec, fset⟩ := repws_set rw_ hj
    subst ec
    have g : Ag (a1 ++ a2 ++ (b1 ++ ((c1 ++ (cj ++ c2)) ++ b2))) H (upd H a (.lst (us.set j v))) := agall
    have gB : Ag (b1 ++ b2) H (upd H a (.lst (us.set j v))) := fun b m => g b (List.mem_append_right _ ((List.mem_append.mp m).elim (fun h => List.mem_append_left _ h) fun h => List.mem_append_right _ (List.mem_append_right _ h)))
    have r1m := r1w.move Z.like_refl Z.sub_refl (Same.refl G) g.l.l
    have ga : Ag (c1 ++ (cj ++ c2)) H (upd H a (.lst (us.set j v))) := fun b m => g b (List.mem_append_right _ (List.mem_append_right _ (List.mem_append_left _ m)))
    obtain ⟨d1, dj, d2, ed, fset2⟩ := repws_set (rw_.move Z.like_refl Z.sub_refl (Same.refl G) ga) hj
    have base : (a1 ++ a2 ++ (b1 ++ ((c1 ++ (cj ++ c2)) ++ b2))).Nodup := nm.2
    rw [ed] at base nm ow
    refine ⟨G, a2, b1 ++ ((a :: (d1 ++ (a1 ++ d2))) ++ b2), r2.move Z.like_refl Z.sub_refl (Same.refl _) g.l.r, h4 G _ (.ol (ws.set j w)) _ (Same.refl _) gB ⟨a, us.set j v, d1 ++ (a1 ++ d2), rfl, rfl, upd_same, fset2 w v a1 r1m⟩, ?_, fun b m => ow b ?_, core_upd2 c ha ⟨us, rfl⟩ hg how hop⟩
    · have sub : List.Sublist (a1 ++ a2 ++ (b1 ++ ((d1 ++ d2) ++ b2))) (a1 ++ a2 ++ (b1 ++ ((d1 ++ (dj ++ d2)) ++ b2))) := by
        refine List.Sublist.append_left (List.Sublist.append_left (List.Sublist.append_right (List.Sublist.append_left (List.sublist_append_right _ _) _) _) _) _
      have n1 : a ∉ a1 ++ a2 ++ (b1 ++ ((d1 ++ d2) ++ b2)) := fun m => nm.1 (sub.subset m)
      have n2 := nodup_sub sub base
      have pm : List.Perm (a :: (a1 ++ a2 ++ (b1 ++ ((d1 ++ d2) ++ b2)))) (a2 ++ (b1 ++ (a :: (d1 ++ (a1 ++ d2)) ++ b2))) := by
        have p1 : List.Perm (a2 ++ (b1 ++ (a :: (d1 ++ (a1 ++ d2)) ++ b2))) (a :: (a2 ++ (b1 ++ ((d1 ++ (a1 ++ d2)) ++ b2)))) := by
          have := (List.perm_middle (a := a) (l₁ := a2 ++ b1) (l₂ := (d1 ++ (a1 ++ d2)) ++ b2))
          simpa [List.append_assoc] using this
        refine (List.Perm.cons a ?_).trans p1.symm
        have h1 := List.perm_append_comm_assoc a1 (a2 ++ b1 ++ d1) (d2 ++ b2)
        simpa [List.append_assoc] using h1
      exact (pm.nodup_iff).mp (List.nodup_cons.mpr ⟨n1, n2⟩)
    · simp only [List.mem_append, List.mem_cons] at m ⊢
      rcases m with m | m | (m | m | m | m) | m <;> simp [m]
end
end DL
namespace DL
open PySem PySem.Spec
open PyProof.Rows L2
section
variable {z : Z} {stk : List W} {vs : List V} {env : Env} {σ : St} {H : Hp} {w : W} {v : V}
/-- the same for the store's list: its place, its items; a new content made of its own items and a tree w on the stack -/
theorem Rel.mutL {i : Nat} {ws : List W} (r : Rel z (w :: stk) (v :: vs) env σ H) (hi : env[i]? = some (some (.oL ws))) (ht : tree w = true) (hop : z.op = false) :
    ∃ a us, σ[i]? = some (some (.ref a)) ∧ H a = some (.lst us) ∧ us.length = ws.length ∧
      (∀ j, j < ws.length → Rel z stk vs (env.set i (some (.oL (ws.set j w)))) σ (upd H a (.lst (us.set j v)))) := by
  obtain ⟨G, as, bs, ⟨v', vs', a1, a2, q, q2, r1, r2⟩, re, nd, ow, c⟩ := r
  cases q; subst q2
  obtain ⟨v2, b1, bi, b2, e1, e2, ri, h4, _, _⟩ := re.at_ hi
  subst e2
  obtain ⟨a, us, as', pn, ev, ea, ha, rw_⟩ := ri
  subst ev ea
  have l : us.length = ws.length := (repws_rds c.gh rw_).len
  have r1w := r1.w ht
  obtain ⟨hg, how⟩ := ow a (List.mem_append_right _ (List.mem_append_right _ (List.mem_append_left _ List.mem_cons_self)))
  -- nobody else stands at a
  have pm0 : List.Perm (a1 ++ a2 ++ (b1 ++ (a :: as' ++ b2))) (a :: (a1 ++ a2 ++ (b1 ++ (as' ++ b2)))) := by
    have := (List.perm_middle (a := a) (l₁ := a1 ++ a2 ++ b1) (l₂ := as' ++ b2))
    simpa [List.append_assoc] using this
  have nm := (List.nodup_cons.mp ((pm0.nodup_iff).mp nd))
  have agall : ∀ {o : HO}, Ag (a1 ++ a2 ++ (b1 ++ (as' ++ b2))) H (upd H a o) := fun {o} b m => upd_ne (fun h => nm.1 (h ▸ m))
  refine ⟨a, us, e1, ha, l, fun j hj => ?_⟩
  obtain ⟨c1, cj, c2, ec, fset⟩ := repws_set rw_ hj
  subst ec
  have g : Ag (a1 ++ a2 ++ (b1 ++ ((c1 ++ (cj ++ c2)) ++ b2))) H (upd H a (.lst (us.set j v))) := agall
  have gB : Ag (b1 ++ b2) H (upd H a (.lst (us.set j v))) := fun b m => g b (List.mem_append_right _ ((List.mem_append.mp m).elim (fun h => List.mem_append_left _ h) fun h => List.mem_append_right _ (List.mem_append_right _ h)))
  have r1m := r1w.move Z.like_refl Z.sub_refl (Same.refl G) g.l.l
  have ga : Ag (c1 ++ (cj ++ c2)) H (upd H a (.lst (us.set j v))) := fun b m => g b (List.mem_append_right _ (List.mem_append_right _ (List.mem_append_left _ m)))
  obtain ⟨d1, dj, d2, ed, fset2⟩ := repws_set (rw_.move Z.like_refl Z.sub_refl (Same.refl G) ga) hj
  have base : (a1 ++ a2 ++ (b1 ++ ((c1 ++ (cj ++ c2)) ++ b2))).Nodup := nm.2
  rw [ed] at base nm ow
  refine ⟨G, a2, b1 ++ ((a :: (d1 ++ (a1 ++ d2))) ++ b2), r2.move Z.like_refl Z.sub_refl (Same.refl _) g.l.r, h4 G _ (.oL (ws.set j w)) _ (Same.refl _) gB ⟨a, us.set j v, d1 ++ (a1 ++ d2), pn, rfl, rfl, upd_same, fset2 w v a1 r1m⟩, ?_, fun b m => ow b ?_, core_upd2 c ha ⟨us, rfl⟩ hg how hop⟩
  · have sub : List.Sublist (a1 ++ a2 ++ (b1 ++ ((d1 ++ d2) ++ b2))) (a1 ++ a2 ++ (b1 ++ ((d1 ++ (dj ++ d2)) ++ b2))) := by
      refine List.Sublist.append_left (List.Sublist.append_left (List.Sublist.append_right (List.Sublist.append_left (List.sublist_append_right _ _) _) _) _) _
    have n1 : a ∉ a1 ++ a2 ++ (b1 ++ ((d1 ++ d2) ++ b2)) := fun m => nm.1 (sub.subset m)
    have n2 := nodup_sub sub base
    have pm : List.Perm (a :: (a1 ++ a2 ++ (b1 ++ ((d1 ++ d2) ++ b2)))) (a2 ++ (b1 ++ (a :: (d1 ++ (a1 ++ d2)) ++ b2))) := by
      have p1 : List.Perm (a2 ++ (b1 ++ (a :: (d1 ++ (a1 ++ d2)) ++ b2))) (a :: (a2 ++ (b1 ++ ((d1 ++ (a1 ++ d2)) ++ b2)))) := by
        have := (List.perm_middle (a := a) (l₁ := a2 ++ b1) (l₂ := (d1 ++ (a1 ++ d2)) ++ b2))
        simpa [List.append_assoc] using this
      refine (List.Perm.cons a ?_).trans p1.symm
      have h1 := List.perm_append_comm_assoc a1 (a2 ++ b1 ++ d1) (d2 ++ b2)
      simpa [List.append_assoc] using h1
    exact (pm.nodup_iff).mp (List.nodup_cons.mpr ⟨n1, n2⟩)
  · simp only [List.mem_append, List.mem_cons] at m ⊢
    rcases m with m | m | (m | m | m | m) | m <;> simp [m]
end
end DL
namespace DL
open PySem PySem.Spec
open PyProof.Rows L2
section
variable {z : Z} {stk : List W} {vs : List V} {env : Env} {σ : St} {H : Hp} {w : W} {v : V}
/-- an owned list gets data of the stack as its content -/
theorem Rel.repl {i : Nat} {ws : List W} {ys : List D} {ts : List V} (r : Rel z (ys.map .d ++ stk) (ts ++ vs) env σ H) (l : ts.length = ys.length) (hi : env[i]? = some (some (.ol ws))) (hop : z.op = false) :
    ∃ a us, σ[i]? = some (some (.ref a)) ∧ H a = some (.lst us) ∧ us.length = ws.length ∧ Rel z stk vs (env.set i (some (.ol (ys.map .d)))) σ (upd H a (.lst ts)) := by
  obtain ⟨G, ⟨as, bs, rs, re, nd, ow, c⟩, rp⟩ := r.ds l
  obtain ⟨v2, b1, bi, b2, e1, e2, ri, h4, _, _⟩ := re.at_ hi
  subst e2
  obtain ⟨a, us, as', ev, ea, ha, rw_⟩ := ri
  subst ev ea
  have lu : us.length = ws.length := (repws_rds c.gh rw_).len
  obtain ⟨hg, how⟩ := ow a (List.mem_append_right _ (List.mem_append_right _ (List.mem_append_left _ List.mem_cons_self)))
  have pm0 : List.Perm (as ++ (b1 ++ (a :: as' ++ b2))) (a :: (as ++ (b1 ++ (as' ++ b2)))) := by
    have := (List.perm_middle (a := a) (l₁ := as ++ b1) (l₂ := as' ++ b2))
    simpa [List.append_assoc] using this
  have nm := (List.nodup_cons.mp ((pm0.nodup_iff).mp nd))
  have g : Ag (as ++ (b1 ++ (as' ++ b2))) H (upd H a (.lst ts)) := fun b m => upd_ne (fun h => nm.1 (h ▸ m))
  have gB : Ag (b1 ++ b2) H (upd H a (.lst ts)) := fun b m => g b (List.mem_append_right _ ((List.mem_append.mp m).elim (fun h => List.mem_append_left _ h) fun h => List.mem_append_right _ (List.mem_append_right _ h)))
  refine ⟨a, us, e1, ha, lu, ⟨G, as, b1 ++ ([a] ++ b2), rs.move Z.like_refl Z.sub_refl (Same.refl _) g.l, h4 G _ (.ol (ys.map .d)) [a] (Same.refl _) gB ⟨a, ts, [], rfl, rfl, upd_same, reps_ws rp⟩, ?_, fun b m => ow b ?_, core_upd2 c ha ⟨us, rfl⟩ hg how hop⟩⟩
  · have sub : List.Sublist (as ++ (b1 ++ ([a] ++ b2))) (as ++ (b1 ++ (a :: as' ++ b2))) := by
      refine List.Sublist.append_left (List.Sublist.append_left ?_ _) _
      exact List.Sublist.cons_cons a (List.sublist_append_right _ _)
    exact nodup_sub sub nd
  · simp only [List.mem_append, List.mem_cons, List.singleton_append] at m ⊢
    rcases m with m | m | m | m <;> simp [m]
/-- the last item of an owned list comes onto the stack -/
theorem Rel.popL {i : Nat} {ws : List W} (r : Rel z stk vs env σ H) (hi : env[i]? = some (some (.ol (ws ++ [w])))) (hop : z.op = false) :
    ∃ a us u, σ[i]? = some (some (.ref a)) ∧ H a = some (.lst (us ++ [u])) ∧ Rel z (w :: stk) (u :: vs) (env.set i (some (.ol ws))) σ (upd H a (.lst us)) := by
  obtain ⟨G, as, bs, rs, re, nd, ow, c⟩ := r
  obtain ⟨v2, b1, bi, b2, e1, e2, ri, h4, _, _⟩ := re.at_ hi
  subst e2
  obtain ⟨a, us0, as', ev, ea, ha, rw_⟩ := ri
  obtain ⟨us, u, a1, a2, e3, e4, r3, r4⟩ := repws_init rw_
  subst ev ea e3 e4
  obtain ⟨hg, how⟩ := ow a (List.mem_append_right _ (List.mem_append_right _ (List.mem_append_left _ List.mem_cons_self)))
  have pm0 : List.Perm (as ++ (b1 ++ (a :: (a1 ++ a2) ++ b2))) (a :: (as ++ (b1 ++ ((a1 ++ a2) ++ b2)))) := by
    have := (List.perm_middle (a := a) (l₁ := as ++ b1) (l₂ := (a1 ++ a2) ++ b2))
    simpa [List.append_assoc] using this
  have nm := (List.nodup_cons.mp ((pm0.nodup_iff).mp nd))
  have g : Ag (as ++ (b1 ++ ((a1 ++ a2) ++ b2))) H (upd H a (.lst us)) := fun b m => upd_ne (fun h => nm.1 (h ▸ m))
  have gB : Ag (b1 ++ b2) H (upd H a (.lst us)) := fun b m => g b (List.mem_append_right _ ((List.mem_append.mp m).elim (fun h => List.mem_append_left _ h) fun h => List.mem_append_right _ (List.mem_append_right _ h)))
  have g1 : Ag a1 H (upd H a (.lst us)) := fun b m => g b (List.mem_append_right _ (List.mem_append_right _ (List.mem_append_left _ (List.mem_append_left _ m))))
  have g2 : Ag a2 H (upd H a (.lst us)) := fun b m => g b (List.mem_append_right _ (List.mem_append_right _ (List.mem_append_left _ (List.mem_append_right _ m))))
  refine ⟨a, us, u, e1, ha, ⟨G, a2 ++ as, b1 ++ (a :: a1 ++ b2), ⟨u, vs, a2, as, rfl, rfl, .of (r4.move Z.like_refl Z.sub_refl (Same.refl _) g2), rs.move Z.like_refl Z.sub_refl (Same.refl _) g.l⟩,
    h4 G _ (.ol ws) (a :: a1) (Same.refl _) gB ⟨a, us, a1, rfl, rfl, upd_same, r3.move Z.like_refl Z.sub_refl (Same.refl _) g1⟩, ?_, fun b m => ow b ?_, core_upd2 c ha ⟨_, rfl⟩ hg how hop⟩⟩
  · have pm : List.Perm (a :: (as ++ (b1 ++ ((a1 ++ a2) ++ b2)))) (a2 ++ as ++ (b1 ++ (a :: a1 ++ b2))) := by
      have p1 : List.Perm (a2 ++ as ++ (b1 ++ (a :: a1 ++ b2))) (a :: (a2 ++ as ++ (b1 ++ (a1 ++ b2)))) := by
        have := (List.perm_middle (a := a) (l₁ := a2 ++ as ++ b1) (l₂ := a1 ++ b2))
        simpa [List.append_assoc] using this
      refine (List.Perm.cons a ?_).trans p1.symm
      have h1 := (List.perm_append_comm_assoc (as ++ b1 ++ a1) a2 b2)
      simpa [List.append_assoc] using h1
    exact (pm.nodup_iff).mp ((pm0.nodup_iff).mp nd)
  · simp only [List.mem_append, List.mem_cons] at m ⊢
    rcases m with (m | m) | m | (m | m) | m <;> simp [m]
end
section
variable {X : Cx} {e a b c o : Expr} {ta tb tc to : DTE} {pos p apos : Pos} {es : List Expr} {tr : DTA} {x name : Str} {id T : String}
/-! methods by values -/
def isTy (T : String) (w : W) : Bool := decide ((match w with
  | .d (.str _) => some "str"
  | .d (.lst _) => some "list"
  | .d (.klst _) => some "list"
  | .ol _ => some "list"
  | .d (.dct _) => some "dict"
  | .od _ => some "dict"
  | _ => none) = some T)
def dBm (T : String) (s : W → DCl) (to : DTE) (tr : DTA) : DTE := fun env k kx => to env (fun wo e1 => (match peek e1 wo with | some a => isTy T a = true | none => False) ∧ tr e1 (fun ws e2 => s wo ws e2 k) kx) kx
def MtD (X : Cx) (r : V → List V → Hp → VK → Prop) (s : W → DCl) : Prop := ∀ z stk vs env σ H (Q : VK) (k : DK) wo vo ws us, Okz X z → Rel z (ws ++ wo :: stk) (us ++ vo :: vs) env σ H → us.length = ws.length → s wo ws env k →
  (∀ w env' v H', Rel z (w :: stk) (v :: vs) env' σ H' → k w env' → Q v H') → r vo us H Q
theorem isTy_v {z : Z} {H : Hp} {w : W} {v : V} (h : Rd1 z H w v) (t : isTy T w = true) : tyV z.K T v H := by
  have t := of_decide_eq_true t
  cases w with
  | d x =>
    cases x with
    | str s => cases t; cases rd_str h; exact rfl
    | lst _ => cases t; obtain ⟨a, us, q, s, _⟩ := h.seq rfl; subst q; exact .inl ⟨rfl, us, SqL.of s⟩
    | klst _ => cases t; obtain ⟨a, us, q, s, _⟩ := h.seq rfl; subst q; exact .inl ⟨rfl, us, s⟩
    | dct _ => cases t; obtain ⟨G, _, g, _, a, us, q, s, _⟩ := h; subst q; exact .inr (.inr (.inl ⟨rfl, .inl ⟨us, g _ _ s⟩⟩))
    | _ => cases t
  | ol _ => cases t; obtain ⟨a, us, q, s, _⟩ := h.seq rfl; subst q; exact .inl ⟨rfl, us, SqL.of s⟩
  | od _ => cases t; obtain ⟨G, _, g, a, us, _, q, _, s, _⟩ := h; subst q; exact .inr (.inr (.inl ⟨rfl, .inl ⟨us, s⟩⟩))
  | _ => cases t
theorem pls_few {es : List Expr} (h : Pls es) {pos : Pos} {env : PySem.Env} : (backTo pos (starEach es env)).all (fun x => !x.1) = true := by
  induction es with
  | nil => rfl
  | cons e es ih =>
    rw [(h e List.mem_cons_self).star es env]
    show (true && (backTo pos (starEach es env)).all (fun x => !x.1)) = true
    rw [ih fun x m => h x (List.mem_cons_of_mem _ m)]; rfl
theorem de_bm {r : V → List V → Hp → VK → Prop} {s : W → DCl} (pa : PlainAttrs T) (slot : Slot T name id) (hty : typeOf (.builtin id) = pure (.type "method_descriptor")) (hm : MtR X id r) (hd : MtD X r s)
    (hbase : attributeBase o name X.env (eval o X.env) = eval o X.env) (hline : (apos.endLine == pos.line) = true) (hlen : es.length < 20) (hp : Pls (e :: es)) (ho : DE X o to) (ha : DA X (e :: es) tr) :
    DE X (.Call (.Attribute o name apos) (e :: es) [] pos) (dBm T s to tr) := fun Wx tk => by
  obtain ⟨te1, p1, h1⟩ := ho Wx tk
  obtain ⟨te2, p2, h2⟩ := ha Wx tk
  have hfew : ((backTo pos (starEach (e :: es) X.env)).all (fun x => !x.1) && (backToKw pos (keywordEach [] X.env)).all (fun x => x.1.isSome) && decide ((e :: es).length + ([] : List Keyword).length + (if ([] : List Keyword).isEmpty then 0 else 1) < 30)) = true := by
    rw [pls_few hp]
    show (true && true && decide _) = true
    rw [decide_eq_true (by show es.length + 1 + 0 + 0 < 30; omega)]; rfl
  refine ⟨_, pe_bm pa slot hty hm p1 p2 hbase hfew hline (hp.hd.star _ _) hp.tl.any, fun z stk vs env σ H Q k kx ok r t q qx => ?_⟩
  refine h1 z stk vs env σ H _ _ kx ok r t (fun w env' v H' r1 k1 => ?_) qx
  obtain ⟨ht, k1⟩ := k1
  split at ht
  · rename_i a ha
    refine ⟨ok.k ▸ isTy_v (r1.look ha) ht, ?_⟩
    exact h2 z _ _ env' σ H' _ _ kx ok r1 k1 (fun ws env2 us H2 l r2 k2 => hd z stk vs env2 σ H2 Q k w v ws us ok r2 l k2 q) fun x e c d H' rx => qx x e c d H' rx.pop
  · exact ht.elim
theorem de_bm0 {r : V → List V → Hp → VK → Prop} {s : W → DCl} (pa : PlainAttrs T) (slot : Slot T name id) (hty : typeOf (.builtin id) = pure (.type "method_descriptor")) (hm : MtR X id r) (hd : MtD X r s)
    (hbase : attributeBase o name X.env (eval o X.env) = eval o X.env) (hline : (apos.endLine == pos.line) = true) (ho : DE X o to) :
    DE X (.Call (.Attribute o name apos) [] [] pos) (dBm T s to dNil) := fun Wx tk => by
  obtain ⟨te1, p1, h1⟩ := ho Wx tk
  refine ⟨_, pe_bm0 pa slot hty hm p1 hbase hline, fun z stk vs env σ H Q k kx ok r t q qx => ?_⟩
  refine h1 z stk vs env σ H _ _ kx ok r t (fun w env' v H' r1 k1 => ?_) qx
  obtain ⟨ht, k1⟩ := k1
  split at ht
  · rename_i a ha
    exact ⟨ok.k ▸ isTy_v (r1.look ha) ht, hd z stk vs env' σ H' Q k w v [] [] ok r1 rfl k1 q⟩
  · exact ht.elim
/-! lists that are changed -/
def mApp : W → DCl := fun wo ws env k => match wo, ws with
  | .at_ i, [w] => useW w env fun w' e1 => match e1[i]? with
    | some (some (.ol xs)) => xs.length < sizeLine ∧ k (.d .non) (e1.set i (some (.ol (xs ++ [w']))))
    | _ => False
  | _, _ => False
theorem at_v {z : Z} {stk : List W} {vs : List V} {env : Env} {σ : St} {H : Hp} {i : Nat} {v u : V} (r : Rel z (.at_ i :: stk) (v :: vs) env σ H) (h : σ[i]? = some (some u)) : v = u := by
  obtain ⟨G, as, bs, ⟨v', vs', a1, a2, q, q2, ⟨_, r1⟩, r2⟩, _⟩ := r
  cases q
  rw [h] at r1
  cases r1; rfl
theorem md_app : MtD X rAppend mApp := fun z stk vs env σ H Q k wo vo ws us ok r l u q => by
  unfold mApp at u
  split at u
  · rename_i i w
    cases us with
    | nil => cases l
    | cons v us =>
      cases us with
      | cons _ _ => cases l
      | nil =>
        obtain ⟨w', e1, t1, _, r1, u1⟩ := r.useW u
        split at u1
        · rename_i xs hx
          have rat := r1.pop
          obtain ⟨a, us, hs, ha, hl, r2, _⟩ := (Rel.pop (Rel.swap r1)).mut hx t1 ok.op
          have ev := at_v rat hs
          subst ev
          exact ⟨a, us, v, rfl, rfl, ha, by rw [hl]; exact u1.1, q _ _ _ _ r2.pushNon u1.2⟩
        · exact u1.elim
  · exact u.elim
/-- pop() -/
def mPop : W → DCl := fun wo ws env k => match wo, ws with
  | .at_ i, [] => match env[i]? with
    | some (some (.ol xs)) => match xs.getLast? with
      | some w => k w (env.set i (some (.ol xs.dropLast)))
      | none => False
    | _ => False
  | _, _ => False
theorem md_pop : MtD X rPop mPop := fun z stk vs env σ H Q k wo vo ws us ok r l u q => by
  unfold mPop at u
  split at u
  · rename_i i
    cases us with
    | cons _ _ => cases l
    | nil =>
      split at u
      · rename_i xs hx
        split at u
        · rename_i w hw
          have e : xs = xs.dropLast ++ [w] := by
            cases xs with
            | nil => cases hw
            | cons x xs =>
              rw [List.getLast?_eq_getLast (List.cons_ne_nil _ _)] at hw
              cases hw
              exact (List.dropLast_concat_getLast (List.cons_ne_nil x xs)).symm
          rw [e] at hx
          obtain ⟨a, us, uu, hs, ha, r2⟩ := (Rel.pop r).popL hx ok.op
          have ev := at_v r hs
          subst ev
          refine ⟨a, us ++ [uu], uu, rfl, rfl, ha, by simp, ?_⟩
          rw [List.dropLast_concat]
          exact q _ _ _ _ r2 u
        · exact u.elim
      · exact u.elim
  · exact u.elim
/-- extend(row) -/
def mExt : W → DCl := fun wo ws env k => match wo, ws with
  | .at_ i, [w] => rowD w env fun kd ys e1 => kd = .l ∧ match e1[i]? with
    | some (some (.ol xs)) => match dsOf xs with
      | some zs => zs.length + ys.length ≤ sizeLine ∧ k (.d .non) (e1.set i (some (.ol ((zs ++ ys).map .d))))
      | none => False
    | _ => False
  | _, _ => False
theorem md_ext : MtD X rExtend mExt := fun z stk vs env σ H Q k wo vo ws us ok r l u q => by
  unfold mExt at u
  split at u
  · rename_i i w
    cases us with
    | nil => cases l
    | cons v us =>
      cases us with
      | cons _ _ => cases l
      | nil =>
        obtain ⟨kd, ys, e1, b, ts, eb, sb, lb, r1, hkd, u1⟩ := r.rowD u
        subst hkd
        split at u1
        · rename_i xs hx
          split at u1
          · rename_i zs hz
            have ex := dsOf_eq hz
            subst ex
            -- the slot's own items, read
            have rat : Rel z (.at_ i :: (ys.map .d ++ stk)) (vo :: (ts ++ vs)) e1 σ H := Rel.up r1 (by rw [List.length_map]; exact lb)
            have pk : peek e1 (.at_ i) = some (.ol (zs.map .d)) := by
              show (match e1[i]? with | some (some w) => some w | _ => none) = _
              rw [hx]
            obtain ⟨G, rg⟩ := rat
            obtain ⟨as, rw0⟩ := RelG.view rg pk
            obtain ⟨a0, us0, _, ev0, _, ha0, rws0⟩ := rw0
            have rp0 := repws_ds rws0
            have r2 := RelG.r (RelG.push rg rp0)
            have l0 : us0.length = zs.length := repsLen rp0
            have r3 := Rel.pop (Rel.up (s1 := zs.map .d) (u1 := us0) r2 (by rw [List.length_map]; exact l0))
            have r4 : Rel z ((zs ++ ys).map .d ++ stk) ((us0 ++ ts) ++ vs) e1 σ H := by
              rw [List.map_append, List.append_assoc, List.append_assoc]; exact r3
            obtain ⟨a, us, hs, ha, hl, r5⟩ := r4.repl (by rw [List.length_append, List.length_append, l0, lb]) hx ok.op
            have ev := at_v (RelG.r rg) hs
            rw [ev0] at ev
            cases ev
            rw [ha0] at ha
            cases ha
            exact ⟨a0, b, us0, ts, ev0, by rw [eb], ha0, sb, by rw [l0, lb]; exact u1.1, q _ _ _ _ r5.pushNon u1.2⟩
          · exact u1.elim
        · exact u1.elim
  · exact u.elim
/-! texts -/
def pkS (w : W) (env : Env) : Option (List Nat) := match peek env w with
  | some (.d (.str s)) => some s
  | _ => none
theorem pkS_v {z : Z} {stk : List W} {vs : List V} {env : Env} {σ : St} {H : Hp} {w : W} {v : V} {s : List Nat} (r : Rel z (w :: stk) (v :: vs) env σ H) (h : pkS w env = some s) : v = .str ⟨s.toArray⟩ := by
  unfold pkS at h
  split at h
  · rename_i t h1
    cases h
    exact rd_str (r.look h1)
  · cases h
/-- s.m(t), the answer a number or a truth -/
def mS1 (f : Str → Str → D) : W → DCl := fun wo ws env k => match ws with
  | [w] => match pkS wo env, pkS w env with
    | some s, some t => k (.d (f ⟨s.toArray⟩ ⟨t.toArray⟩)) env
    | _, _ => False
  | _ => False
theorem md_s1 {f : Str → Str → D} {g : Str → Str → V} (hf : ∀ z a b, Fixed z (f a b) (g a b)) : MtD X (fun x xs H Q => ∃ a b, x = .str a ∧ xs = [.str b] ∧ Q (g a b) H) (mS1 f) := fun z stk vs env σ H Q k wo vo ws us ok r l u q => by
  unfold mS1 at u
  split at u
  · rename_i w
    cases us with
    | nil => cases l
    | cons v us =>
      cases us with
      | cons _ _ => cases l
      | nil =>
        split at u
        · rename_i s t h1 h2
          have e2 := pkS_v r h2
          have e1 := pkS_v (Rel.pop r) h1
          subst e1 e2
          exact ⟨_, _, rfl, rfl, q _ _ _ _ ((Rel.pop (Rel.pop r)).push fun G _ _ _ => hf z _ _ G) u⟩
        · exact u.elim
  · exact u.elim
def mS0 (f : Str → D) : W → DCl := fun wo ws env k => match ws with
  | [] => match pkS wo env with
    | some s => k (.d (f ⟨s.toArray⟩)) env
    | _ => False
  | _ => False
theorem md_s0 {f : Str → D} {g : Str → V} (hf : ∀ z a, Fixed z (f a) (g a)) : MtD X (fun x xs H Q => ∃ a, x = .str a ∧ xs = [] ∧ True ∧ Q (g a) H) (mS0 f) := fun z stk vs env σ H Q k wo vo ws us ok r l u q => by
  unfold mS0 at u
  split at u
  · cases us with
    | cons _ _ => cases l
    | nil =>
      split at u
      · rename_i s h1
        have e1 := pkS_v r h1
        subst e1
        exact ⟨_, rfl, rfl, trivial, q _ _ _ _ ((Rel.pop r).push fun G _ _ _ => hf z _ G) u⟩
      · exact u.elim
  · exact u.elim
def strsOf : List D → Option (List (List Nat))
  | [] => some []
  | .str s :: xs => (strsOf xs).map (s :: ·)
  | _ => none
theorem strsOf_eq : ∀ {xs : List D} {ns : List (List Nat)}, strsOf xs = some ns → xs = ns.map .str
  | [], _, h => by cases h; rfl
  | .str i :: xs, ns, h => by
    have h : (strsOf xs).map (i :: ·) = some ns := h
    cases e : strsOf xs with
    | none => rw [e] at h; cases h
    | some ys => rw [e] at h; cases h; rw [strsOf_eq e]; rfl
theorem strsOf_map : ∀ {ns : List (List Nat)}, strsOf (ns.map .str) = some ns
  | [] => rfl
  | x :: xs => by show (strsOf (xs.map .str)).map (x :: ·) = _; rw [strsOf_map]; rfl
def toS (s : List Nat) : Str := ⟨s.toArray⟩
theorem reps_strs {z : Z} {G : Hp} : ∀ {ns : List (List Nat)} {us : List V}, Reps z G (ns.map .str) us → us = (ns.map toS).map V.str
  | [], _, q => q
  | _ :: _, _, ⟨v, vs, q, r, r2⟩ => by subst q; rw [reps_strs r2]; cases r; rfl
theorem strs_reps {z : Z} {G : Hp} : ∀ {ns : List (List Nat)}, Reps z G (ns.map .str) ((ns.map toS).map V.str)
  | [] => rfl
  | _ :: _ => ⟨_, _, rfl, rfl, strs_reps⟩
theorem toS_cps (x : Str) : toS x.cps.toList = x := by cases x; rfl
/-- s.join(row) -/
def mJoin : W → DCl := fun wo ws env k => match ws with
  | [w] => match pkS wo env with
    | some s => rowD w env fun _ xs e1 => match strsOf xs with
      | some ys => (ys.map List.length).sum + ys.length * s.length ≤ 16777216 ∧ k (.d (.str (Txt.join (toS s) (ys.map toS)).cps.toList)) e1
      | none => False
    | none => False
  | _ => False
theorem md_join : MtD X (fun x xs H Q => ∃ a p, ∃ ys : List Str, x = .str a ∧ xs = [.ref p] ∧ (SqL X.K H p (ys.map V.str) ∨ SqT X.K H p (ys.map V.str)) ∧ (ys.map (·.length)).sum + ys.length * a.length ≤ 16777216 ∧ Q (.str (Txt.join a ys)) H) mJoin := fun z stk vs env σ H Q k wo vo ws us ok r l u q => by
  unfold mJoin at u
  split at u
  · rename_i w
    cases us with
    | nil => cases l
    | cons v us =>
      cases us with
      | cons _ _ => cases l
      | nil =>
        split at u
        · rename_i s h1
          have e1 := pkS_v (Rel.pop r) h1
          subst e1
          obtain ⟨kd, xs, e2, a, us, ea, sa, la, r1, hk⟩ := r.rowD u
          split at hk
          · rename_i ys hy
            have ex := strsOf_eq hy
            obtain ⟨G, rg, rp⟩ := r1.ds la
            rw [ex] at rp
            have eu := reps_strs rp
            subst eu ea
            refine ⟨_, a, ys.map toS, rfl, rfl, ok.k ▸ sqk_or sa, ?_, ?_⟩
            · have e : (ys.map toS).map (·.length) = ys.map List.length := by
                rw [List.map_map]; exact List.map_congr_left fun x _ => str_len x
              rw [e, List.length_map, str_len]; exact hk.1
            · have rr := (RelG.r rg).pop.pushStr (i := (Txt.join (toS s) (ys.map toS)).cps.toList)
              have e : (⟨(Txt.join (toS s) (ys.map toS)).cps.toList.toArray⟩ : Str) = Txt.join (toS s) (ys.map toS) := toS_cps _
              rw [e] at rr
              exact q _ _ _ _ rr hk.2
          · exact hk.elim
        · exact u.elim
  · exact u.elim
/-- s.split(t) -/
def mSplit : W → DCl := fun wo ws env k => match ws with
  | [w] => match pkS wo env, pkS w env with
    | some s, some t => t ≠ [] ∧ s.length + 2 ≤ sizeLine ∧ k (.ol (((Txt.split (toS s) (toS t)).map fun y => D.str y.cps.toList).map .d)) env
    | _, _ => False
  | _ => False
theorem md_split : MtD X (fun x xs H Q => ∃ a b, x = .str a ∧ xs = [.str b] ∧ (b.length == 0) = false ∧ a.length + 2 ≤ sizeLine ∧ rNewStrs (Txt.split a b) H Q) mSplit := fun z stk vs env σ H Q k wo vo ws us ok r l u q => by
  unfold mSplit at u
  split at u
  · rename_i w
    cases us with
    | nil => cases l
    | cons v us =>
      cases us with
      | cons _ _ => cases l
      | nil =>
        split at u
        · rename_i s t h1 h2
          have e2 := pkS_v r h2
          have e1 := pkS_v (Rel.pop r) h1
          subst e1 e2
          refine ⟨_, _, rfl, rfl, ?_, by rw [str_len]; exact u.2.1, fun p hp => ?_⟩
          · rw [str_len]
            cases t with
            | nil => exact absurd rfl u.1
            | cons _ _ => rfl
          · obtain ⟨G, rg⟩ := Rel.pop (Rel.pop r)
            have h3 : Reps z G (((Txt.split (toS s) (toS t)).map fun y => y.cps.toList).map D.str) ((((Txt.split (toS s) (toS t)).map fun y => y.cps.toList).map toS).map V.str) := strs_reps
            have e3 : ((Txt.split (toS s) (toS t)).map fun y => y.cps.toList).map toS = Txt.split (toS s) (toS t) := by
              rw [List.map_map]
              have : (toS ∘ fun y : Str => y.cps.toList) = id := funext fun y => toS_cps y
              rw [this, List.map_id]
            rw [e3, List.map_map] at h3
            have r2 := RelG.r (RelG.push rg h3)
            exact q _ _ _ _ (r2.newL (by rw [List.length_map, List.length_map, List.length_map]) all_tree hp ok.op) u.2.2
        · exact u.elim
  · exact u.elim
end
end DL

/-! DL11: what a for walks; targets; statements; loops; comprehensions. -/
namespace DL
open PySem PySem.Spec
open PyProof.Rows L2
def noat (w : W) : Bool := match w with
  | .at_ _ => false
  | _ => true
/-- the iterator J gives the items, while src stands on the stack -/
def GenOk (z : Z) (J : It) (items src : List W) (usrc : List V) : Prop := ∀ stk vs env σ H, Rel z (src ++ stk) (usrc ++ vs) env σ H → ∀ i, i ≤ items.length →
  (i = items.length → J.stop i H) ∧ ∀ w, items[i]? = some w → J.go i H ∧ ∀ x H', J.yld i H x H' → Rel z (w :: (src ++ stk)) (x :: (usrc ++ vs)) env σ H'
abbrev DTI := Env → (List W → Env → Prop) → XC → Prop
def DI (X : Cx) (tg iter : Expr) (t : DTI) : Prop := ∀ Wx, L2N.Takes X Wx → ∃ wi, PI X tg iter wi ∧ ∀ z stk vs env σ H (R : It → Hp → Prop) (k : List W → Env → Prop) (kx : XC), Okz X z → Rel z stk vs env σ H → t env k kx →
  (∀ items env' J H' src usrc, src.all noat = true → items.all tree = true → usrc.length = src.length → GenOk z J items src usrc → Rel z (src ++ stk) (usrc ++ vs) env' σ H' → k items env' → R J H') → (∀ x env' cls d H', RelX z stk vs x cls d env' σ H' → kx x env' → Wx cls d σ H') → wi σ H R
section
variable {X : Cx} {tg e a b c : Expr} {ta tb tc : DTE} {pos p : Pos} {es : List Expr} {tr : DTA} {x : Str}
theorem PI.or {w w' : TI} (h : PI X tg e w) (h' : PI X tg e w') : PI X tg e (fun σ H R => w σ H R ∨ w' σ H R) := ⟨fun pins s σ H R I q => q.elim (h.run pins s σ H R I) (h'.run pins s σ H R I)⟩
/-! a list, a tuple, a text -/
def dRow (ta : DTE) : DTI := fun env k kx => ta env (fun w e1 => useD w e1 fun x e2 => match x with
  | .lst xs => k (xs.map .d) e2
  | .klst xs => k (xs.map .d) e2
  | .tup xs => k (xs.map .d) e2
  | .str s => k (s.map fun c => .d (.str [c])) e2
  | _ => False) kx
theorem reps_at {z : Z} {G : Hp} : ∀ {xs : List D} {us : List V} {i : Nat} {x : D}, Reps z G xs us → xs[i]? = some x → ∃ u, us[i]? = some u ∧ Rep z G x u
  | [], _, _, _, _, e => by simp at e
  | x0 :: _, _, 0, x, ⟨v, vs', q, r, _⟩, e => by
    have e0 : x0 = x := by simpa using e
    subst q e0
    exact ⟨v, rfl, r⟩
  | _ :: _, _, i + 1, x, ⟨v, vs', q, _, r⟩, e => by
    subst q
    obtain ⟨u, h1, h2⟩ := reps_at (i := i) r (by simpa using e)
    exact ⟨u, by simpa using h1, h2⟩
theorem rep_top {z : Z} {G H : Hp} {stk : List W} {vs : List V} {env : Env} {σ : St} {x : D} {v : V} (r : RelG z G (.d x :: stk) (v :: vs) env σ H) : Rep z G x v := by
  obtain ⟨as, h⟩ := RelG.view r (w' := .d x) rfl
  exact h.2
theorem gen_list {z : Z} {x : D} {xs : List D} {a : Addr} (hx : ∀ G, Rep z G x (.ref a) → ∃ us, SqL z.K G a us ∧ Reps z G xs us) : GenOk z (Itl z.K a) (xs.map .d) [.d x] [.ref a] := fun stk vs env σ H r i hi => by
  obtain ⟨G, rg⟩ := r
  have c := RelG.core rg
  obtain ⟨us, sq, rp⟩ := hx G (rep_top rg)
  have l := repsLen rp
  have sH := c.gh.seq sq
  rw [List.length_map] at hi
  refine ⟨fun e => ⟨us, sH, by rw [List.length_map] at e; omega⟩, fun w hw => ?_⟩
  rw [List.getElem?_map] at hw
  cases e : xs[i]? with
  | none => rw [e] at hw; cases hw
  | some y =>
    rw [e] at hw
    cases hw
    obtain ⟨u, h1, h2⟩ := reps_at rp e
    refine ⟨⟨us, u, sH, h1⟩, fun x' H' hy => ?_⟩
    obtain ⟨eh, hy⟩ := hy
    subst eh
    have := hy us sH
    rw [h1] at this
    cases this
    exact RelG.r (RelG.push1 rg h2)
theorem gen_tup {z : Z} {xs : List D} {a : Addr} : GenOk z (Itt z.K a) (xs.map .d) [.d (.tup xs)] [.ref a] := fun stk vs env σ H r i hi => by
  obtain ⟨G, rg⟩ := r
  have c := RelG.core rg
  obtain ⟨a', us, ea, sq, rp⟩ := rep_top rg
  cases ea
  have l := repsLen rp
  have sH := Same.tup c.gh sq
  rw [List.length_map] at hi
  refine ⟨fun e => ⟨us, sH, by rw [List.length_map] at e; omega⟩, fun w hw => ?_⟩
  rw [List.getElem?_map] at hw
  cases e : xs[i]? with
  | none => rw [e] at hw; cases hw
  | some y =>
    rw [e] at hw
    cases hw
    obtain ⟨u, h1, h2⟩ := reps_at rp e
    refine ⟨⟨us, u, sH, h1⟩, fun x' H' hy => ?_⟩
    obtain ⟨eh, hy⟩ := hy
    subst eh
    have := hy us sH
    rw [h1] at this
    cases this
    exact RelG.r (RelG.push1 rg h2)
theorem gen_str {z : Z} {s : List Nat} : GenOk z (Its ⟨s.toArray⟩) (s.map fun c => .d (.str [c])) [] [] := fun stk vs env σ H r i hi => by
  rw [List.length_map] at hi
  have sz : (⟨s.toArray⟩ : Str).cps.size = s.length := by show s.toArray.size = _; simp
  refine ⟨fun e => by rw [List.length_map] at e; show (⟨s.toArray⟩ : Str).cps.size ≤ i; rw [sz]; omega, fun w hw => ?_⟩
  rw [List.getElem?_map] at hw
  cases e : s[i]? with
  | none => rw [e] at hw; cases hw
  | some y =>
    rw [e] at hw
    cases hw
    have hlt : i < s.length := (List.getElem?_eq_some_iff.mp e).1
    refine ⟨by show i < (⟨s.toArray⟩ : Str).cps.size; rw [sz]; exact hlt, fun x' H' hy => ?_⟩
    obtain ⟨eh, cc, hc, ex⟩ := hy
    subst eh ex
    have hc : s.toArray[i]? = some cc := hc
    rw [List.getElem?_toArray, e] at hc
    cases hc
    exact Rel.pushStr r
theorem all_tree2 {α : Type} {f : α → D} {xs : List α} : (xs.map fun x => W.d (f x)).all tree = true := by
  rw [List.all_map]; exact List.all_eq_true.mpr fun _ _ => rfl
/-- what a for over a value asks -/
def rowI (K : PySem.W.Frag) (v : V) (H : Hp) (R : It → Hp → Prop) : Prop := (∃ a, v = .ref a ∧ (∃ us, SqL K H a us) ∧ R (Itl K a) H) ∨ (∃ a, v = .ref a ∧ (∃ us, SqT K H a us) ∧ R (Itt K a) H) ∨ ∃ y, v = .str y ∧ R (Its y) H
def iRow (K : PySem.W.Frag) (te : TE) : TI := fun σ H R => te σ H fun v H1 => rowI K v H1 R
theorem pi_row {te : TE} (he : PE X e te) : PI X tg e (iRow X.K te) := ⟨fun pins s σ H R I h => thn (he.run pins s σ H _ I h) fun u t ⟨y, H1, J, ry, q⟩ => by
  rcases q with ⟨a, ey, ⟨us, sq⟩, q⟩ | ⟨a, ey, ⟨us, sq⟩, q⟩ | ⟨y, ey, q⟩
  · subst ey
    cases ry
    obtain ⟨its, _, pl, _⟩ := J.list sq
    exact wpAny_pyIter_list pl.isList (pi_one (tk := t.toks) J _ (turn_list a _) ⟨_, Heap.get?_push_size _ rfl, rfl, rfl⟩ q)
  · subst ey
    cases ry
    obtain ⟨its, _, pl, _⟩ := J.tuple sq
    exact wpAny_pyIter_tuple pl (pi_one (tk := t.toks) J _ (turn_tuple a _) ⟨_, Heap.get?_push_size _ rfl, rfl, rfl⟩ q)
  · subst ey
    obtain ⟨tt, eu⟩ := ry
    subst eu
    cases wide : y.cps.all (· < 128) with
    | false => exact wpAny_pyIter_wide wide (pi_one (tk := t.toks) J _ (turn_str _ y tt "str_iterator" (.inr rfl)) ⟨_, Heap.get?_push_size _ rfl, rfl, rfl⟩ q)
    | true => exact wpAny_pyIter_ascii wide (pi_one (tk := t.toks) J _ (turn_str _ y tt "str_ascii_iterator" (.inl rfl)) ⟨_, Heap.get?_push_size _ rfl, rfl, rfl⟩ q)⟩
theorem di_row (ha : DE X a ta) : DI X tg a (dRow ta) := fun Wx tk => by
  obtain ⟨te, p, h⟩ := ha Wx tk
  refine ⟨_, pi_row p, fun z stk vs env σ H R k kx ok r t q qx => ?_⟩
  refine h z stk vs env σ H _ _ kx ok r t (fun w env' v H' r1 k1 => ?_) qx
  obtain ⟨x, e2, r2, hk⟩ := r1.useD k1
  cases x with
  | lst xs =>
    obtain ⟨G, rg⟩ := r2
    obtain ⟨a, us, ev, sq, rp⟩ := rep_top rg
    subst ev
    exact .inl ⟨a, rfl, ⟨us, ok.k ▸ SqL.of ((RelG.core rg).gh _ _ sq)⟩, ok.k ▸ q _ e2 _ _ [.d (.lst xs)] [.ref a] rfl all_tree rfl (gen_list fun G h => by obtain ⟨b, us, e, s, r⟩ := h; cases e; exact ⟨us, SqL.of s, r⟩) (RelG.r rg) hk⟩
  | klst xs =>
    obtain ⟨G, rg⟩ := r2
    obtain ⟨a, us, ev, sq, rp⟩ := rep_top rg
    subst ev
    exact .inl ⟨a, rfl, ⟨us, ok.k ▸ (RelG.core rg).gh.seq sq⟩, ok.k ▸ q _ e2 _ _ [.d (.klst xs)] [.ref a] rfl all_tree rfl (gen_list fun G h => by obtain ⟨b, us, e, s, r⟩ := h; cases e; exact ⟨us, s, r⟩) (RelG.r rg) hk⟩
  | tup xs =>
    obtain ⟨G, rg⟩ := r2
    obtain ⟨a, us, ev, sq, rp⟩ := rep_top rg
    subst ev
    exact .inr (.inl ⟨a, rfl, ⟨us, ok.k ▸ Same.tup (RelG.core rg).gh sq⟩, ok.k ▸ q _ e2 _ _ [.d (.tup xs)] [.ref a] rfl all_tree rfl gen_tup (RelG.r rg) hk⟩)
  | str s =>
    have ev := rd_str (r2.look rfl)
    subst ev
    exact .inr (.inr ⟨_, rfl, q _ e2 _ _ [] [] rfl all_tree2 rfl gen_str (Rel.pop r2) hk⟩)
  | _ => exact hk.elim
/-! range -/
def rangeW (lo : Int) (n : Nat) : List W := (List.range n).map fun i => .d (.int (lo + (i : Nat)))
theorem gen_range {z : Z} {lo : Int} {n : Nat} : GenOk z (Itr lo n) (rangeW lo n) [] [] := fun stk vs env σ H r i hi => by
  have l : (rangeW lo n).length = n := by unfold rangeW; rw [List.length_map, List.length_range]
  rw [l] at hi
  refine ⟨fun e => by rw [l] at e; show n ≤ i; omega, fun w hw => ?_⟩
  unfold rangeW at hw
  rw [List.getElem?_map] at hw
  cases e : (List.range n)[i]? with
  | none => rw [e] at hw; cases hw
  | some y =>
    rw [e] at hw
    cases hw
    obtain ⟨h1, h2⟩ := List.getElem?_eq_some_iff.mp e
    rw [List.length_range] at h1
    rw [List.getElem_range] at h2
    subst h2
    refine ⟨h1, fun x' H' hy => ?_⟩
    obtain ⟨eh, ex⟩ := hy
    subst eh ex
    exact Rel.pushInt r
def RgOk (i : Int) : Prop := -(2 ^ 62) ≤ i ∧ i < 2 ^ 62
def dRng1 (ta : DTE) : DTI := fun env k kx => ta env (fun w e1 => match peek e1 w with
  | some (.d (.int n)) => RgOk n ∧ k (rangeW 0 n.toNat) e1
  | _ => False) kx
def dRng2 (ta tb : DTE) : DTI := fun env k kx => ta env (fun wa e1 => tb e1 (fun wb e2 => match peek e2 wa, peek e2 wb with
  | some (.d (.int i)), some (.d (.int j)) => RgOk i ∧ RgOk j ∧ k (rangeW i (j - i).toNat) e2
  | _, _ => False) kx) kx
theorem all_range {lo : Int} {n : Nat} : (rangeW lo n).all tree = true := by unfold rangeW; exact all_tree2
theorem di_rng1 (hg : Gl X "range") (hm : X.mg "range" = none) (hp : Pl a) (ha : DE X a ta) : DI X tg (.Call (.Name "range" p) [a] [] pos) (dRng1 ta) := fun Wx tk => by
  obtain ⟨te, p, h⟩ := ha Wx tk
  refine ⟨_, pi_range1 hg hm (pa_cons p pa_nil (hp.star _ _)) (hp.star _ _), fun z stk vs env σ H R k kx ok r t q qx => ?_⟩
  refine h z stk vs env σ H _ _ kx ok r t (fun w env' v H' r1 k1 => ?_) qx
  split at k1
  · rename_i n h1
    have e := rd_int (r1.look h1)
    subst e
    refine ⟨n, rfl, k1.1.1, k1.1.2, ?_⟩
    exact q (rangeW 0 n.toNat) env' (Itr 0 n.toNat) H' [] [] rfl all_range rfl gen_range r1.pop k1.2
  · exact k1.elim
theorem di_rng2 (hg : Gl X "range") (hm : X.mg "range" = none) (hp : Pl a) (hp2 : Pl b) (ha : DE X a ta) (hb : DE X b tb) : DI X tg (.Call (.Name "range" p) [a, b] [] pos) (dRng2 ta tb) := fun Wx tk => by
  obtain ⟨te1, p1, h1⟩ := ha Wx tk
  obtain ⟨te2, p2, h2⟩ := hb Wx tk
  refine ⟨_, pi_range2 hg hm (pa_cons p1 (pa_cons p2 pa_nil (hp2.star _ _)) (hp.star _ _)) ?_ (hp2.star _ _), fun z stk vs env σ H R k kx ok r t q qx => ?_⟩
  · rw [hp.star, hp2.star]; rfl
  refine h1 z stk vs env σ H _ _ kx ok r t (fun w env' v H' r1 k1 => ?_) qx
  refine h2 z _ _ env' σ H' _ _ kx ok r1 k1 (fun w2 env2 v2 H2 r2 k2 => ?_) fun x e c d H' rx => qx x e c d H' rx.pop
  split at k2
  · rename_i i j e1 e2
    have e2 := rd_int (r2.look e2)
    have e1 := rd_int (r2.look2 e1)
    subst e1 e2
    refine ⟨i, j, rfl, ⟨k2.1.1, k2.1.2, k2.2.1.1, k2.2.1.2⟩, ?_⟩
    exact q (rangeW i (j - i).toNat) env2 (Itr i (j - i).toNat) H2 [] [] rfl all_range rfl gen_range r2.pop.pop k2.2.2
  · exact k2.elim
/-! targets -/
abbrev DTG := W → Env → (Env → Prop) → XC → Prop
/-- the slots but those of sl are as they were -/
def Chg (sl : List Nat) (σ σ' : St) : Prop := σ'.length = σ.length ∧ ∀ i, i ∉ sl → σ'[i]? = σ[i]?
theorem Chg.refl {sl : List Nat} {σ : St} : Chg sl σ σ := ⟨rfl, fun _ _ => rfl⟩
theorem Chg.trans {sl sl' : List Nat} {σ σ' σ'' : St} (h : Chg sl σ σ') (h' : Chg sl' σ' σ'') : Chg (sl ++ sl') σ σ'' := ⟨h'.1.trans h.1, fun i m => (h'.2 i fun q => m (List.mem_append_right _ q)).trans (h.2 i fun q => m (List.mem_append_left _ q))⟩
theorem Chg.set {σ : St} {i : Nat} {o : Option V} : Chg [i] σ (σ.set i o) := ⟨List.length_set .., fun j m => List.getElem?_set_ne fun e => m (by simp [e])⟩
def DG (X : Cx) (tg : Expr) (sl : List Nat) (t : DTG) : Prop := ∀ Wx, L2N.Takes X Wx → ∃ g, PG X tg g ∧ ∀ z stk vs env σ H w v (Q : St → Hp → Prop) (k : Env → Prop) (kx : XC), Okz X z → stk.all noat = true → tree w = true → Rel z (w :: stk) (v :: vs) env σ H → t w env k kx →
  (∀ env' σ' H', Rel z stk vs env' σ' H' → Chg sl σ σ' → k env' → Q σ' H') → (∀ x env' cls d σ' H', RelX z stk vs x cls d env' σ' H' → kx x env' → Wx cls d σ' H') → g v σ H Q
abbrev DTGs := List W → Env → (Env → Prop) → XC → Prop
def DGs (X : Cx) (tgs : List Expr) (sl : List Nat) (t : DTGs) : Prop := ∀ Wx, L2N.Takes X Wx → ∃ g, PGs X tgs g ∧ ∀ z stk vs env σ H ws us (Q : St → Hp → Prop) (k : Env → Prop) (kx : XC), Okz X z → stk.all noat = true → ws.all tree = true → us.length = ws.length → Rel z (ws ++ stk) (us ++ vs) env σ H → t ws env k kx →
  (∀ env' σ' H', Rel z stk vs env' σ' H' → Chg sl σ σ' → k env' → Q σ' H') → (∀ x env' cls d σ' H', RelX z stk vs x cls d env' σ' H' → kx x env' → Wx cls d σ' H') → g us σ H Q
theorem RepT.set {z : Z} {G H : Hp} {σ σ' : St} {w : W} {v : V} {as : List Addr} (n : noat w = true) (h : RepT z G H σ w v as) : RepT z G H σ' w v as := by
  cases w <;> first | exact h | cases n
theorem RepSt.set {z : Z} {G H : Hp} {σ σ' : St} : ∀ {ws : List W} {vs : List V} {as : List Addr}, ws.all noat = true → RepSt z G H σ ws vs as → RepSt z G H σ' ws vs as
  | [], _, _, _, h => h
  | w :: ws, _, _, n, ⟨v, vs, a1, a2, q, q2, r, r2⟩ => by
    obtain ⟨n1, n2⟩ := band (show (noat w && ws.all noat) = true from n)
    exact ⟨v, vs, a1, a2, q, q2, r.set n1, RepSt.set n2 r2⟩
def gN (i : Nat) : DTG := fun w env k _ => i < env.length ∧ k (env.set i (some w))
theorem dg_name {i : Nat} {x : Str} (hN : X.N.Nodup) (hi : X.N[i]? = some x) (hx : Loc X.env.scope x) (hf : X.fn x = true ∨ X.env.scope.names.lookup x = some .local) : DG X (.Name x pos) [i] (gN i) := fun Wx tk => by
  refine ⟨_, pg_name hN hi hx hf, fun z stk vs env σ H w v Q k kx ok na tw r t q qx => ?_⟩
  refine q _ _ _ ?_ Chg.set t.2
  obtain ⟨G, as, bs, ⟨v', vs', a1, a2, e, e2, r1, r2⟩, re, nd, ow, c⟩ := r
  cases e; subst e2
  obtain ⟨b1, bi, b2, eb, f⟩ := re.put t.1
  subst eb
  refine ⟨G, a2, b1 ++ (a1 ++ b2), r2.set na, f w v a1 (r1.w tw), ?_, fun a m => ow a ?_, c⟩
  · have sub : List.Sublist (a2 ++ (b1 ++ b2)) (a2 ++ (b1 ++ (bi ++ b2))) := List.Sublist.append_left (List.Sublist.append_left (List.sublist_append_right _ _) _) _
    have nd1 : (a1 ++ (a2 ++ (b1 ++ b2))).Nodup := by
      rw [List.append_assoc] at nd
      exact nodup_sub (List.Sublist.append_left sub _) nd
    have pm : List.Perm (a1 ++ (a2 ++ (b1 ++ b2))) (a2 ++ (b1 ++ (a1 ++ b2))) := by
      have h1 := List.perm_append_comm_assoc a1 (a2 ++ b1) b2
      simpa [List.append_assoc] using h1
    exact (pm.nodup_iff).mp nd1
  · simp only [List.mem_append] at m ⊢
    rcases m with m | m | m | m <;> simp [m]
def gsNil : DTGs := fun ws env k _ => ws = [] ∧ k env
def gsCons (g : DTG) (gs : DTGs) : DTGs := fun ws env k kx => match ws with
  | w :: r => g w env (fun e1 => gs r e1 k kx) kx
  | [] => False
theorem dgs_nil : DGs X [] [] gsNil := fun Wx tk => ⟨_, pgs_nil, fun z stk vs env σ H ws us Q k kx ok na tw l r t q qx => by
  obtain ⟨e, hk⟩ := t
  subst e
  have e2 : us = [] := List.eq_nil_of_length_eq_zero l
  subst e2
  exact ⟨rfl, q _ _ _ r Chg.refl hk⟩⟩
theorem tree_noat {ws : List W} (h : ws.all tree = true) : ws.all noat = true := List.all_eq_true.mpr fun w m => by
  have := List.all_eq_true.mp h w m
  cases w <;> first | rfl | cases this
theorem dgs_cons {g : DTG} {gs : DTGs} {tgs : List Expr} {sl sl' : List Nat} (hg : DG X tg sl g) (hs : DGs X tgs sl' gs) (h1 : assignEach (tg :: tgs) X.env = (false, assign tg X.env) :: assignEach tgs X.env) : DGs X (tg :: tgs) (sl ++ sl') (gsCons g gs) := fun Wx tk => by
  obtain ⟨g1, p1, f1⟩ := hg Wx tk
  obtain ⟨g2, p2, f2⟩ := hs Wx tk
  refine ⟨_, pgs_cons p1 p2 (by rw [h1]; rfl), fun z stk vs env σ H ws us Q k kx ok na tw l r t q qx => ?_⟩
  cases ws with
  | nil => exact t.elim
  | cons w ws =>
    cases us with
    | nil => cases l
    | cons u us =>
      obtain ⟨t1, t2⟩ := band (show (tree w && ws.all tree) = true from tw)
      refine ⟨u, us, rfl, ?_⟩
      refine f1 z (ws ++ stk) (us ++ vs) env σ H w u _ _ kx ok ?_ t1 r t (fun env' σ' H' r1 ch k1 => ?_) fun x e c d s H' rx => qx x e c d s H' (rx.drop (Nat.succ.inj l))
      · rw [List.all_append, tree_noat t2, na]; rfl
      · exact f2 z stk vs env' σ' H' ws us Q k kx ok na t2 (Nat.succ.inj l) r1 k1 (fun env2 σ2 H2 r2 ch2 k2 => q env2 σ2 H2 r2 (ch.trans ch2) k2) qx
end
end DL

/-! DL12: unpacking, statements, loops, comprehensions. -/
namespace DL
open PySem PySem.Spec
open PyProof.Rows L2
/-- a plain target -/
def TgPl (e : Expr) : Prop := ∀ es env, assignEach (e :: es) env = (false, assign e env) :: assignEach es env
def TgPls (es : List Expr) : Prop := ∀ e ∈ es, TgPl e
theorem TgPls.len {es : List Expr} (h : TgPls es) {env : PySem.Env} : (assignEach es env).length = es.length := by
  induction es with
  | nil => rfl
  | cons e es ih => rw [h e List.mem_cons_self es env]; exact congrArg Nat.succ (ih fun x m => h x (List.mem_cons_of_mem _ m))
theorem TgPls.idx {es : List Expr} (h : TgPls es) {env : PySem.Env} : (assignEach es env).findIdx? (·.1) = none := by
  induction es with
  | nil => rfl
  | cons e es ih =>
    rw [h e List.mem_cons_self es env, List.findIdx?_cons, ih fun x m => h x (List.mem_cons_of_mem _ m)]; rfl
section
variable {X : Cx} {tg e a b c : Expr} {ta tb tc : DTE} {pos p : Pos} {es : List Expr} {tr : DTA} {x : Str}
theorem PG.or {g g' : TG} (h : PG X tg g) (h' : PG X tg g') : PG X tg (fun v σ H Q => g v σ H Q ∨ g' v σ H Q) := ⟨fun pins s σ H v u Q I r q => q.elim (h.run pins s σ H v u Q I r) (h'.run pins s σ H v u Q I r)⟩
def gTp (n : Nat) (gs : DTGs) : DTG := fun w env k kx => match w with
  | .ot ws => ws.length = n ∧ gs ws env k kx
  | .ol ws => ws.length = n ∧ gs ws env k kx
  | .d x => match rowOf x with
    | some xs => xs.length = n ∧ gs (xs.map .d) env k kx
    | none => False
  | _ => False
theorem Rel.unrow {z : Z} {stk : List W} {vs : List V} {env : Env} {σ : St} {H : Hp} {w : W} {v : V} {kd : SeqK} {ws : List W} (r : Rel z (w :: stk) (v :: vs) env σ H) (tw : tree w = true) (h : seqW w = some (kd, ws)) :
    ∃ a us, v = .ref a ∧ SqK z.K H a us kd ∧ us.length = ws.length ∧ Rel z (ws ++ stk) (us ++ vs) env σ H := by
  obtain ⟨G, as, bs, ⟨v', vs', a1, a2, e, e2, r1, r2⟩, re, nd, ow, c⟩ := r
  cases e; subst e2
  have fin : ∀ {a : Addr} {us : List V} {as' : List Addr}, a1 = a :: as' → RepWs z G H ws us as' → ws.all tree = true → Rel z (ws ++ stk) (us ++ vs) env σ H := fun {a us as'} e rw_ tt => by
    subst e
    have toSt : ∀ {ws : List W} {us : List V} {as : List Addr}, RepWs z G H ws us as → RepSt z G H σ ws us as := by
      intro ws
      induction ws with
      | nil => intro us as h; exact h
      | cons w ws ih => intro us as h; obtain ⟨v, vs, b1, b2, q, q2, r, r2⟩ := h; exact ⟨v, vs, b1, b2, q, q2, .of r, ih r2⟩
    refine ⟨G, as' ++ a2, bs, (toSt rw_).app r2, re, ?_, fun b m => ow b ?_, c⟩
    · exact nodup_sub (List.sublist_cons_self _ _) nd
    · exact List.mem_cons_of_mem _ m
  have treeWs : ∀ {ws : List W} {us : List V} {as : List Addr}, RepWs z G H ws us as → ws.all tree = true := by
    intro ws
    induction ws with
    | nil => intro us as h; rfl
    | cons w ws ih =>
      intro us as h
      obtain ⟨v, vs, b1, b2, q, q2, r, r2⟩ := h
      have : tree w = true := by cases w <;> first | rfl | exact r.elim
      show (tree w && ws.all tree) = true
      rw [this, ih r2]; rfl
  cases w with
  | d x =>
    obtain ⟨q, r1⟩ := r1
    subst q
    have fd : ∀ {a : Addr} {us : List V} {xs : List D}, ws = xs.map .d → Reps z G xs us → us.length = ws.length ∧ Rel z (ws ++ stk) (us ++ vs) env σ H := fun {a us xs} e rp => by
      subst e
      refine ⟨by rw [List.length_map]; exact repsLen rp, ?_⟩
      exact RelG.r (RelG.push ⟨a2, bs, r2, re, nd, ow, c⟩ rp)
    cases x with
    | lst xs => cases h; obtain ⟨a, us, q, s, rp⟩ := r1; obtain ⟨l, r⟩ := fd (a := a) rfl rp; exact ⟨a, us, q, c.gh _ _ s, l, r⟩
    | klst xs => cases h; obtain ⟨a, us, q, s, rp⟩ := r1; obtain ⟨l, r⟩ := fd (a := a) rfl rp; exact ⟨a, us, q, c.gh.seq s, l, r⟩
    | tup xs => cases h; obtain ⟨a, us, q, s, rp⟩ := r1; obtain ⟨l, r⟩ := fd (a := a) rfl rp; exact ⟨a, us, q, Same.tup c.gh s, l, r⟩
    | cel xs => cases h; obtain ⟨_, a, us, q, s, rp⟩ := r1; obtain ⟨l, r⟩ := fd (a := a) rfl rp; exact ⟨a, us, q, c.gh _ _ s, l, r⟩
    | _ => cases h
  | ol ws => cases h; obtain ⟨a, us, as', q, q2, e, rw_⟩ := r1; exact ⟨a, us, q, e, (repws_rds c.gh rw_).len, fin q2 rw_ (treeWs rw_)⟩
  | oL ws => cases h; obtain ⟨a, us, as', _, q, q2, e, rw_⟩ := r1; exact ⟨a, us, q, e, (repws_rds c.gh rw_).len, fin q2 rw_ (treeWs rw_)⟩
  | ot ws => cases h; obtain ⟨a, us, as', q, q2, e, rw_⟩ := r1; exact ⟨a, us, q, SqT.of e, (repws_rds c.gh rw_).len, fin q2 rw_ (treeWs rw_)⟩
  | _ => cases h
theorem rel_tree {z : Z} {stk : List W} {vs : List V} {env : Env} {σ : St} {H : Hp} {w : W} {v : V} {kd : SeqK} {ws : List W} (r : Rel z (w :: stk) (v :: vs) env σ H) (tw : tree w = true) (h : seqW w = some (kd, ws)) : ws.all tree = true := by
  obtain ⟨G, as, bs, ⟨v', vs', a1, a2, e, e2, r1, r2⟩, re, nd, ow, c⟩ := r
  have treeWs : ∀ {ws : List W} {us : List V} {as : List Addr}, RepWs z G H ws us as → ws.all tree = true := by
    intro ws
    induction ws with
    | nil => intro us as h; rfl
    | cons w ws ih =>
      intro us as h
      obtain ⟨v, vs, b1, b2, q, q2, r, r2⟩ := h
      have : tree w = true := by cases w <;> first | rfl | exact r.elim
      show (tree w && ws.all tree) = true
      rw [this, ih r2]; rfl
  obtain ⟨_, _, _, _, _, _, rws⟩ := (r1.w tw).row c.gh h
  exact treeWs rws
theorem dg_tup {kk : Nat} {gs : DTGs} {sl : List Nat} (hc : X.calm = true) (hp : TgPls es) (hg : DGs X es sl gs) : DG X (.Tuple es kk pos) sl (gTp es.length gs) := fun Wx tk => by
  obtain ⟨g, p, f⟩ := hg Wx tk
  refine ⟨_, PG.or (pg_tup hc p hp.len hp.idx) (pg_unl hc p hp.len hp.idx), fun z stk vs env σ H w v Q k kx ok na tw r t q qx => ?_⟩
  have go : ∀ {kd : SeqK} {ws : List W}, seqW w = some (kd, ws) → ws.length = es.length → gs ws env k kx → (gTup X.K es.length g v σ H Q ∨ gUnl X.K es.length g v σ H Q) := fun {kd ws} h1 h2 h3 => by
    have tt := rel_tree r tw h1
    obtain ⟨a, us, ev, sq, l, r2⟩ := r.unrow tw h1
    have hh := f z stk vs env σ H ws us Q k kx ok na tt l r2 h3 q qx
    cases kd with
    | l => exact .inr ⟨a, us, ev, ok.k ▸ SqL.of sq, l.trans h2, hh⟩
    | r => exact .inr ⟨a, us, ev, ok.k ▸ sq, l.trans h2, hh⟩
    | t => exact .inl ⟨a, us, ev, ok.k ▸ sq, l.trans h2, hh⟩
  unfold gTp at t
  split at t
  · exact go rfl t.1 t.2
  · exact go rfl t.1 t.2
  · rename_i x
    split at t
    · rename_i xs hx
      obtain ⟨kd, es⟩ := seqW_row hx
      exact go es (by rw [List.length_map]; exact t.1) t.2
    · exact t.elim
  · exact t.elim
/-! statements -/
structure DEnds where
  nx : Env → Prop
  rt : W → Env → Prop
  bk : Env → Prop := fun _ => False
  ct : Env → Prop := fun _ => False
abbrev DTS := DEnds → XC → Env → Prop
structure EndsOk (z : Z) (stk : List W) (vs : List V) (E : DEnds) (kx : XC) (D : Ends) (Wx : WX) : Prop where
  nx : ∀ env σ H, Rel z stk vs env σ H → E.nx env → D.nx σ H
  rt : ∀ w env v σ H, Rel z (w :: stk) (v :: vs) env σ H → E.rt w env → D.rt v H
  bk : ∀ env σ H, Rel z stk vs env σ H → E.bk env → D.bk σ H
  ct : ∀ env σ H, Rel z stk vs env σ H → E.ct env → D.ct σ H
  x : ∀ x env cls d σ H, RelX z stk vs x cls d env σ H → kx x env → Wx cls d σ H
def DS (X : Cx) (st : Stmt) (t : DTS) : Prop := ∀ Wx, L2N.Takes X Wx → ∃ ts, PS X st ts ∧ ∀ z stk vs env σ H (D : Ends) (E : DEnds) (kx : XC), Okz X z → stk.all noat = true → Rel z stk vs env σ H → t E kx env → EndsOk z stk vs E kx D Wx → ts D σ H
def DSs (X : Cx) (st : List Stmt) (t : DTS) : Prop := ∀ Wx, L2N.Takes X Wx → ∃ ts, PSs X st ts ∧ ∀ z stk vs env σ H (D : Ends) (E : DEnds) (kx : XC), Okz X z → stk.all noat = true → Rel z stk vs env σ H → t E kx env → EndsOk z stk vs E kx D Wx → ts D σ H
variable {st : Stmt} {rest : List Stmt} {t u : DTS}
def dNext : DTS := fun E _ env => E.nx env
def dSeq (t u : DTS) : DTS := fun E kx env => t { E with nx := fun e1 => u E kx e1 } kx env
theorem dss_nil : DSs X [] dNext := fun Wx tk => ⟨_, pss_nil, fun z stk vs env σ H D E kx ok na r h q => q.nx _ _ _ r h⟩
theorem dss_cons (h1 : DS X st t) (h2 : DSs X rest u) : DSs X (st :: rest) (dSeq t u) := fun Wx tk => by
  obtain ⟨t1, p1, f1⟩ := h1 Wx tk
  obtain ⟨t2, p2, f2⟩ := h2 Wx tk
  refine ⟨_, pss_cons p1 p2, fun z stk vs env σ H D E kx ok na r h q => f1 z stk vs env σ H _ { E with nx := fun e1 => u E kx e1 } kx ok na r h ⟨fun env' σ' H' r1 k1 => ?_, q.rt, q.bk, q.ct, q.x⟩⟩
  exact f2 z stk vs env' σ' H' D E kx ok na r1 k1 q
theorem dss_one (h1 : DS X st t) : DSs X [st] t := fun Wx tk => let ⟨_, p, f⟩ := h1 Wx tk; ⟨_, pss_one p, f⟩
theorem ds_pass : DS X (.Pass pos) dNext := fun Wx tk => ⟨_, ps_pass, fun z stk vs env σ H D E kx ok na r h q => q.nx _ _ _ r h⟩
def dBrk : DTS := fun E _ env => E.bk env
def dCnt : DTS := fun E _ env => E.ct env
theorem ds_brk : DS X (.Break pos) dBrk := fun Wx tk => ⟨_, ps_break, fun z stk vs env σ H D E kx ok na r h q => q.bk _ _ _ r h⟩
theorem ds_cnt : DS X (.Continue pos) dCnt := fun Wx tk => ⟨_, ps_continue, fun z stk vs env σ H D E kx ok na r h q => q.ct _ _ _ r h⟩
def dDrop (ta : DTE) : DTS := fun E kx env => ta env (fun _ e1 => E.nx e1) kx
theorem ds_expr (hs : swapsWith e none pos.line X.env = pure false) (he : DE X e ta) : DS X (.Expr e pos) (dDrop ta) := fun Wx tk => by
  obtain ⟨te, p, f⟩ := he Wx tk
  exact ⟨_, ps_expr p hs, fun z stk vs env σ H D E kx ok na r h q => f z stk vs env σ H _ _ kx ok r h (fun w env' v H' r1 k1 => q.nx _ _ _ r1.pop k1) fun x env' cls d H' => q.x x env' cls d σ H'⟩
def dRet (ta : DTE) : DTS := fun E kx env => ta env (fun w e1 => E.rt w e1) kx
theorem ds_ret (he : DE X e ta) : DS X (.Return (some e) pos) (dRet ta) := fun Wx tk => by
  obtain ⟨te, p, f⟩ := he Wx tk
  exact ⟨_, ps_ret p, fun z stk vs env σ H D E kx ok na r h q => f z stk vs env σ H _ _ kx ok r h (fun w env' v H' r1 k1 => q.rt _ _ _ _ _ r1 k1) fun x env' cls d H' => q.x x env' cls d σ H'⟩
def dRetN : DTS := fun E _ env => E.rt (.d .non) env
theorem ds_retN : DS X (.Return none pos) dRetN := fun Wx tk => ⟨_, ps_retN, fun z stk vs env σ H D E kx ok na r h q => q.rt _ _ _ _ _ r.pushNon h⟩
def dIf (sa : DTT) (t u : DTS) : DTS := fun E kx env => sa env (fun c e1 => if c = true then t E kx e1 else u E kx e1) kx
theorem ds_if {sa : DTT} {ss rs : List Stmt} (hc : DT X c sa) (ha : DSs X ss t) (hb : DSs X rs u) : DS X (.If c ss rs pos) (dIf sa t u) := fun Wx tk => by
  obtain ⟨t0, p0, f0⟩ := hc Wx tk
  obtain ⟨t1, p1, f1⟩ := ha Wx tk
  obtain ⟨t2, p2, f2⟩ := hb Wx tk
  refine ⟨_, ps_if p0 p1 p2, fun z stk vs env σ H D E kx ok na r h q => f0 z stk vs env σ H _ _ kx ok r h (fun c env' H' r1 k1 => ?_) fun x env' cls d H' => q.x x env' cls d σ H'⟩
  cases c with
  | true => exact f1 z stk vs env' σ H' D E kx ok na r1 k1 q
  | false => exact f2 z stk vs env' σ H' D E kx ok na r1 k1 q
/-! assignment: what is stored is taken first -/
def dAsg (ta : DTE) (g : DTG) : DTS := fun E kx env => ta env (fun w e1 => useW w e1 fun w' e2 => g w' e2 E.nx kx) kx
theorem ds_asg {g : DTG} {sl : List Nat} (hs : swapsWithSole [tg] e pos.line X.env = pure false) (hw : swappedStores [tg] e X.env = pure none) (h1 : TgPl tg) (he : DE X e ta) (hg : DG X tg sl g) : DS X (.Assign [tg] e pos) (dAsg ta g) := fun Wx tk => by
  obtain ⟨te, p, f⟩ := he Wx tk
  obtain ⟨tg', p2, f2⟩ := hg Wx tk
  refine ⟨_, ps_asg p p2 hs hw (by rw [h1]; rfl), fun z stk vs env σ H D E kx ok na r h q => f z stk vs env σ H _ _ kx ok r h (fun w env' v H' r1 k1 => ?_) fun x env' cls d H' => q.x x env' cls d σ H'⟩
  obtain ⟨w', e2, t2, _, r2, hk⟩ := r1.useW k1
  exact f2 z stk vs e2 σ H' w' v _ _ kx ok na t2 r2 hk (fun env' σ' H' r3 _ k3 => q.nx env' σ' H' r3 k3) q.x
/-! for -/
def forL (g : DTG) (body : DTS) (kx : XC) : List W → DEnds → Env → Prop
  | [], E, env => E.nx env
  | w :: r, E, env => g w env (fun e1 => body { E with nx := fun e2 => forL g body kx r E e2, ct := fun e2 => forL g body kx r E e2, bk := E.nx } kx e1) kx
def dFor (ti : DTI) (g : DTG) (body : DTS) : DTS := fun E kx env => ti env (fun items e1 => forL g body kx items E e1) kx
theorem ds_for {iter : Expr} {body : List Stmt} {ti : DTI} {g : DTG} {tb : DTS} {sl : List Nat} (hp : PassesOwn (model X.prog X.w) X.A X.env X.xe) (hc : X.calm = true) (hf : ∀ x, foldedSetIterable iter X.env x = pure x) (hi : DI X tg iter ti) (hg : DG X tg sl g) (hb : DSs X body tb) : DS X (.For tg iter body [] pos) (dFor ti g tb) := fun Wx tk => by
  obtain ⟨wi, p1, f1⟩ := hi Wx tk
  obtain ⟨g', p2, f2⟩ := hg Wx tk
  obtain ⟨tb', p3, f3⟩ := hb Wx tk
  refine ⟨_, ps_for hp hc p1 p2 p3 hf, fun z stk vs env σ H D E kx ok na r h q => f1 z stk vs env σ H _ _ kx ok r h (fun items env' J H' src usrc ns ts lsrc gen r1 k1 => ?_) fun x env' cls d H' => q.x x env' cls d σ H'⟩
  have ns' : (src ++ stk).all noat = true := by rw [List.all_append, ns, na]; rfl
  refine ⟨fun i m σ H => ∃ env, m = items.length - i ∧ i ≤ items.length ∧ Rel z (src ++ stk) (usrc ++ vs) env σ H ∧ forL g tb kx (items.drop i) E env, ⟨items.length, env', by omega, Nat.zero_le _, r1, k1⟩, fun i m σ2 H2 hW => ?_⟩
  obtain ⟨env2, em, hi, r2, k2⟩ := hW
  have gi := gen stk vs env2 σ2 H2 r2 i hi
  by_cases hlt : i < items.length
  · have hd : items.drop i = items[i] :: items.drop (i + 1) := List.drop_eq_getElem_cons hlt
    rw [hd] at k2
    obtain ⟨go, yld⟩ := gi.2 items[i] (List.getElem?_eq_getElem hlt)
    refine .inr ⟨go, fun σ3 H3 => ∃ env3, Rel z (src ++ stk) (usrc ++ vs) env3 σ3 H3 ∧ forL g tb kx (items.drop (i + 1)) E env3, fun σ3 H3 ⟨env3, r3, k3⟩ => ⟨items.length - (i + 1), by omega, env3, rfl, hlt, r3, k3⟩, fun x H3 hy => ?_⟩
    have r3 := yld x H3 hy
    have tw : tree items[i] = true := List.all_eq_true.mp ts _ (List.getElem_mem hlt)
    refine f2 z (src ++ stk) (usrc ++ vs) env2 σ2 H3 items[i] x _ _ kx ok ns' tw r3 k2 (fun env4 σ4 H4 r4 _ k4 => ?_) fun x e c d s H' rx => q.x x e c d s H' (rx.drop lsrc)
    refine f3 z (src ++ stk) (usrc ++ vs) env4 σ4 H4 _ _ kx ok ns' r4 k4 ⟨fun env5 σ5 H5 r5 k5 => ⟨env5, r5, k5⟩, fun w env5 v σ5 H5 r5 k5 => ?_, fun env5 σ5 H5 r5 k5 => ?_, fun env5 σ5 H5 r5 k5 => ⟨env5, r5, k5⟩, fun x e c d s H' rx => q.x x e c d s H' (rx.drop lsrc)⟩
    · have r6 : Rel z (src ++ w :: stk) (usrc ++ v :: vs) env5 σ5 H5 := Rel.down r5 lsrc
      exact q.rt w env5 v σ5 H5 (Rel.drop r6 lsrc) k5
    · exact q.nx env5 σ5 H5 (Rel.drop r5 lsrc) k5
  · have e : i = items.length := by omega
    subst e
    rw [List.drop_length] at k2
    exact .inl ⟨gi.1 rfl, q.nx env2 σ2 H2 (Rel.drop r2 lsrc) k2⟩
/-! while: an invariant that falls -/
def dWhile (sa : DTT) (body : DTS) : DTS := fun E kx env => ∃ I : Nat → Env → Prop, (∃ m, I m env) ∧ ∀ m env, I m env → sa env (fun c e1 => if c = true then body { E with nx := fun e2 => ∃ m', m' < m ∧ I m' e2, ct := fun e2 => ∃ m', m' < m ∧ I m' e2, bk := E.nx } kx e1 else E.nx e1) kx
theorem ds_while {sa : DTT} {body : List Stmt} {tb : DTS} (hp : PassesOwn (model X.prog X.w) X.A X.env X.xe) (hc : DT X c sa) (hb : DSs X body tb) : DS X (.While c body [] pos) (dWhile sa tb) := fun Wx tk => by
  obtain ⟨t0, p0, f0⟩ := hc Wx tk
  obtain ⟨tb', p3, f3⟩ := hb Wx tk
  refine ⟨_, ps_while hp p0 p3, fun z stk vs env σ H D E kx ok na r h q => ?_⟩
  obtain ⟨I, ⟨m0, i0⟩, step⟩ := h
  refine ⟨fun m σ H => ∃ env, I m env ∧ Rel z stk vs env σ H, ⟨m0, env, i0, r⟩, fun m σ2 H2 ⟨env2, i2, r2⟩ => ?_⟩
  refine f0 z stk vs env2 σ2 H2 _ _ kx ok r2 (step m env2 i2) (fun c env3 H3 r3 k3 => ?_) fun x env' cls d H' => q.x x env' cls d σ2 H'
  cases c with
  | false => exact q.nx env3 σ2 H3 r3 k3
  | true =>
    rw [if_pos rfl]
    rw [if_pos rfl] at k3
    refine ⟨fun σ4 H4 => ∃ env4 m', m' < m ∧ I m' env4 ∧ Rel z stk vs env4 σ4 H4, fun σ4 H4 ⟨env4, m', lt, i4, r4⟩ => ⟨m', lt, env4, i4, r4⟩, ?_⟩
    exact f3 z stk vs env3 σ2 H3 _ _ kx ok na r3 k3 ⟨fun env5 σ5 H5 r5 ⟨m', lt, i5⟩ => ⟨env5, m', lt, i5, r5⟩, q.rt, q.nx, fun env5 σ5 H5 r5 ⟨m', lt, i5⟩ => ⟨env5, m', lt, i5, r5⟩, q.x⟩
end
end DL

/-! DL13: comprehensions. -/
namespace DL
open PySem PySem.Spec
open PyProof.Rows L2
/-- the same place -/
structure Okz2 (K : PySem.W.Frag) (mg : Str → Option Value) (cm : Bool) (z : Z) : Prop where
  k : z.K = K
  m : z.mg = mg
  op : z.op = false
  lx : z.lx = false
  cold : cm = true → z.ex = none
theorem Okz2.o {X : Cx} {z : Z} (h : Okz2 X.K X.mg X.calm z) : Okz X z := ⟨h.k, h.m, h.op, fun c => ⟨h.cold c, h.lx⟩, fun c => by rw [h.lx] at c; cases c⟩
theorem Okz.o2 {X : Cx} {z : Z} (h : Okz X z) (c : X.calm = true) : Okz2 X.K X.mg X.calm z := ⟨h.k, h.m, h.op, (h.cold c).2, fun _ => (h.cold c).1⟩
def kf : XC := fun _ _ => False
/-- the weakest readings, of K and mg alone -/
def teS (O : Z → Prop) (t : DTE) : TE := fun σ H Q => ∃ z stk vs env k, O z ∧ Rel z stk vs env σ H ∧ t env k kf ∧ ∀ w env' v H', Rel z (w :: stk) (v :: vs) env' σ H' → k w env' → Q v H'
def ttS (O : Z → Prop) (t : DTT) : TT := fun σ H Q => ∃ z stk vs env k, O z ∧ Rel z stk vs env σ H ∧ t env k kf ∧ ∀ b env' H', Rel z stk vs env' σ H' → k b env' → Q b H'
def tgS (O : Z → Prop) (sl : List Nat) (t : DTG) : TG := fun v σ H Q => ∃ z stk vs env w k, O z ∧ stk.all noat = true ∧ tree w = true ∧ Rel z (w :: stk) (v :: vs) env σ H ∧ t w env k kf ∧ ∀ env' σ' H', Rel z stk vs env' σ' H' → Chg sl σ σ' → k env' → Q σ' H'
theorem takesF {X : Cx} : L2N.Takes X (fun _ _ _ _ => False) := fun _ _ ⟨_, _, _, _, _, _, _, _, _, _, _, _, _, _, _, _, w⟩ => w.elim
section
variable {X : Cx} {tg e a b c : Expr} {ta tb tc te : DTE} {pos p : Pos} {es : List Expr} {x : Str}
theorem DE.star {O : Z → Prop} (hO : ∀ z, O z → Okz X z) (h : DE X e te) : PE X e (teS O te) := by
  obtain ⟨t, p, f⟩ := h _ takesF
  exact ⟨fun pins s σ H Q I ⟨z, stk, vs, env, k, ok, r, ht, q⟩ => p.run pins s σ H Q I (f z stk vs env σ H Q k kf (hO z ok) r ht q fun _ _ _ _ _ _ h => h)⟩
theorem DT.star {O : Z → Prop} (hO : ∀ z, O z → Okz X z) {tt : DTT} (h : DT X e tt) : PT X e (ttS O tt) := by
  obtain ⟨t, p, f⟩ := h _ takesF
  exact ⟨fun pins s σ H Q I ⟨z, stk, vs, env, k, ok, r, ht, q⟩ => p.run pins s σ H Q I (f z stk vs env σ H Q k kf (hO z ok) r ht q fun _ _ _ _ _ _ h => h)⟩
theorem DG.star {O : Z → Prop} (hO : ∀ z, O z → Okz X z) {g : DTG} {sl : List Nat} (h : DG X tg sl g) : PG X tg (tgS O sl g) := by
  obtain ⟨t, p, f⟩ := h _ takesF
  exact ⟨fun pins s σ H v u Q I rv ⟨z, stk, vs, env, w, k, ok, na, tw, r, ht, q⟩ => p.run pins s σ H v u Q I rv (f z stk vs env σ H w v Q k kf (hO z ok) na tw r ht q fun _ _ _ _ _ _ _ h => h)⟩
/-! slots wiped -/
def wipeE (env : Env) : List Nat → Env
  | [] => env
  | v :: vs => (wipeE env vs).set v none
theorem repe_none {z : Z} {G H : Hp} : ∀ {env : Env} {σ : St} {bs : List Addr} {i : Nat} {o : Option V}, RepE z G H env σ bs → ∃ bs', RepE z G H (env.set i none) (σ.set i o) bs' ∧ List.Sublist bs' bs
  | [], _, _, _, _, ⟨q, q2⟩ => by subst q q2; exact ⟨[], ⟨rfl, rfl⟩, List.Sublist.refl _⟩
  | none :: env, _, bs, 0, o, ⟨o', σ', q, r⟩ => by subst q; exact ⟨bs, ⟨o, σ', rfl, r⟩, List.Sublist.refl _⟩
  | some w :: env, _, _, 0, o, ⟨v, σ', a1, a2, q, q2, r, r2⟩ => by subst q q2; exact ⟨a2, ⟨o, σ', rfl, r2⟩, List.sublist_append_right _ _⟩
  | none :: env, _, bs, i + 1, o, ⟨o', σ', q, r⟩ => by
    subst q
    obtain ⟨bs', h1, h2⟩ := repe_none (i := i) (o := o) r
    exact ⟨bs', ⟨o', _, rfl, h1⟩, h2⟩
  | some w :: env, _, _, i + 1, o, ⟨v, σ', a1, a2, q, q2, r, r2⟩ => by
    subst q q2
    obtain ⟨bs', h1, h2⟩ := repe_none (i := i) (o := o) r2
    exact ⟨a1 ++ bs', ⟨v, _, a1, bs', rfl, rfl, r, h1⟩, List.Sublist.append_left h2 _⟩
theorem repe_wipe {z : Z} {G H : Hp} {env : Env} {σ : St} {bs : List Addr} (r : RepE z G H env σ bs) : ∀ vs, ∃ bs', RepE z G H (wipeE env vs) (wipe σ vs) bs' ∧ List.Sublist bs' bs
  | [] => ⟨bs, r, List.Sublist.refl _⟩
  | v :: vs => by
    obtain ⟨b1, h1, h2⟩ := repe_wipe r vs
    obtain ⟨b2, h3, h4⟩ := repe_none (i := v) (o := none) h1
    exact ⟨b2, h3, h4.trans h2⟩
/-- where the environment says nothing, the slots may hold anything -/
theorem repe_any {z : Z} {G H : Hp} : ∀ {env : Env} {σ σ' : St} {bs : List Addr}, RepE z G H env σ bs → σ'.length = σ.length → (∀ (i : Nat) (w : W), env[i]? = some (some w) → σ'[i]? = σ[i]?) → RepE z G H env σ' bs
  | [], _, σ', _, ⟨q, q2⟩, l, _ => by subst q q2; exact ⟨List.eq_nil_of_length_eq_zero l, rfl⟩
  | none :: env, _, σ', bs, ⟨o', σ1, q, r⟩, l, f => by
    subst q
    cases σ' with
    | nil => cases l
    | cons o σ' => exact ⟨o, σ', rfl, repe_any r (Nat.succ.inj l) fun i w h => by simpa using f (i + 1) w (by simpa using h)⟩
  | some w :: env, _, σ', _, ⟨v, σ1, a1, a2, q, q2, r, r2⟩, l, f => by
    subst q q2
    cases σ' with
    | nil => cases l
    | cons o σ' =>
      have h0 : o = some v := by simpa using f 0 w rfl
      subst h0
      exact ⟨v, σ', a1, a2, rfl, rfl, r, repe_any r2 (Nat.succ.inj l) fun i w h => by simpa using f (i + 1) w (by simpa using h)⟩
theorem wipeE_at : ∀ {vs : List Nat} {env : Env} {i : Nat} {w : W}, (wipeE env vs)[i]? = some (some w) → i ∉ vs ∧ env[i]? = some (some w)
  | [], _, _, _, h => ⟨by simp, h⟩
  | v :: vs, env, i, w, h => by
    have h : ((wipeE env vs).set v none)[i]? = some (some w) := h
    by_cases e : v = i
    · subst e
      rw [List.getElem?_set] at h
      split at h
      · split at h <;> cases h
      · contradiction
    · rw [List.getElem?_set_ne e] at h
      obtain ⟨h1, h2⟩ := wipeE_at h
      exact ⟨fun m => (List.mem_cons.mp m).elim (fun q => e q.symm) h1, h2⟩
theorem wipe_at : ∀ {vs : List Nat} {σ : St} {i : Nat}, i ∉ vs → (wipe σ vs)[i]? = σ[i]?
  | [], _, _, _ => rfl
  | v :: vs, σ, i, h => by
    show ((wipe σ vs).set v none)[i]? = _
    rw [List.getElem?_set_ne fun e => h (by rw [e]; exact List.mem_cons_self)]
    exact wipe_at fun m => h (List.mem_cons_of_mem _ m)
theorem wipe_in : ∀ {vs : List Nat} {σ : St} {i : Nat}, i ∈ vs → i < σ.length → (wipe σ vs)[i]? = some none
  | [], _, _, h, _ => nomatch h
  | v :: vs, σ, i, h, l => by
    show ((wipe σ vs).set v none)[i]? = _
    by_cases e : v = i
    · subst e
      rw [List.getElem?_set_self (by rw [wipe_length]; exact l)]
    · rw [List.getElem?_set_ne e]
      exact wipe_in ((List.mem_cons.mp h).elim (fun q => absurd q.symm e) id) l
theorem wipe_chg {sl vs : List Nat} {σ σ' : St} (c : Chg sl σ σ') (h : ∀ i ∈ sl, i ∈ vs) : wipe σ' vs = wipe σ vs := by
  refine List.ext_getElem? fun i => ?_
  by_cases m : i ∈ vs
  · by_cases l : i < σ.length
    · rw [wipe_in m l, wipe_in m (by rw [c.1]; exact l)]
    · have l2 : ¬ i < σ'.length := by rw [c.1]; exact l
      rw [List.getElem?_eq_none (by rw [wipe_length]; omega), List.getElem?_eq_none (by rw [wipe_length]; omega)]
  · rw [wipe_at m, wipe_at m]
    exact c.2 i fun q => m (h i q)
/-! the stack hidden: what slots hold is not told within -/
def hide : W → W
  | .at_ _ => .hole
  | w => w
theorem hide_noat {stk : List W} : (stk.map hide).all noat = true := by
  rw [List.all_map]
  exact List.all_eq_true.mpr fun w _ => by cases w <;> rfl
theorem rept_hide {z : Z} {G H : Hp} {σ σ' : St} {w : W} {v : V} {as : List Addr} (h : RepT z G H σ w v as) : RepT z G H σ' (hide w) v as := by
  cases w <;> first | exact h | exact h.1
theorem repst_hide {z : Z} {G H : Hp} {σ σ' : St} : ∀ {ws : List W} {vs : List V} {as : List Addr}, RepSt z G H σ ws vs as → RepSt z G H σ' (ws.map hide) vs as
  | [], _, _, h => h
  | _ :: _, _, _, ⟨v, vs, a1, a2, q, q2, r, r2⟩ => ⟨v, vs, a1, a2, q, q2, rept_hide r, repst_hide r2⟩
/-- which slots the stack means -/
def AtOk (σ : St) : List W → List V → Prop
  | [], _ => True
  | w :: ws, vs => ∃ v vs', vs = v :: vs' ∧ (∀ i, w = .at_ i → σ[i]? = some (some v)) ∧ AtOk σ ws vs'
theorem atok_of {z : Z} {G H : Hp} {σ : St} : ∀ {ws : List W} {vs : List V} {as : List Addr}, RepSt z G H σ ws vs as → AtOk σ ws vs
  | [], _, _, _ => trivial
  | _ :: _, _, _, ⟨v, vs, a1, a2, q, q2, r, r2⟩ => ⟨v, vs, q, fun i e => by subst e; exact r.2, atok_of r2⟩
theorem repst_show {z : Z} {G H : Hp} {σ σ' : St} : ∀ {ws : List W} {vs : List V} {as : List Addr}, AtOk σ ws vs → RepSt z G H σ' (ws.map hide) vs as → RepSt z G H σ ws vs as
  | [], _, _, _, h => h
  | w :: ws, _, _, ⟨v0, vs0, q0, f, g⟩, ⟨v, vs, a1, a2, q, q2, r, r2⟩ => by
    subst q0
    cases q
    refine ⟨_, _, a1, a2, rfl, q2, ?_, repst_show g r2⟩
    cases w with
    | at_ i => exact ⟨r, f i rfl⟩
    | _ => exact r
theorem nodup_r {as bs bs' : List Addr} (h : List.Sublist bs' bs) (n : (as ++ bs).Nodup) : (as ++ bs').Nodup := nodup_sub (List.Sublist.append_left h _) n
/-- into a block -/
theorem Rel.into {z : Z} {stk : List W} {us : List V} {env : Env} {σ : St} {H : Hp} (r : Rel z stk us env σ H) (vs : List Nat) : Rel z (stk.map hide) us (wipeE env vs) (wipe σ vs) H := by
  obtain ⟨G, as, bs, rs, re, nd, ow, c⟩ := r
  obtain ⟨bs', h1, h2⟩ := repe_wipe re vs
  exact ⟨G, as, bs', repst_hide rs, h1, nodup_r h2 nd, fun a m => ow a ((List.mem_append.mp m).elim (fun h => List.mem_append_left _ h) fun h => List.mem_append_right _ (h2.subset h)), c⟩
/-- one turn's end: the block's slots forgotten -/
theorem Rel.again {z : Z} {stk : List W} {us : List V} {env : Env} {σ : St} {H : Hp} (r : Rel z stk us env σ H) (na : stk.all noat = true) (vs : List Nat) : Rel z stk us (wipeE env vs) (wipe σ vs) H := by
  obtain ⟨G, as, bs, rs, re, nd, ow, c⟩ := r
  obtain ⟨bs', h1, h2⟩ := repe_wipe re vs
  exact ⟨G, as, bs', rs.set na, h1, nodup_r h2 nd, fun a m => ow a ((List.mem_append.mp m).elim (fun h => List.mem_append_left _ h) fun h => List.mem_append_right _ (h2.subset h)), c⟩
/-- out of a block -/
theorem Rel.out {z : Z} {stk : List W} {us : List V} {env : Env} {σ : St} {H : Hp} {vs : List Nat} (at' : AtOk σ stk us) (r : Rel z (stk.map hide) us (wipeE env vs) (wipe σ vs) H) : Rel z stk us (wipeE env vs) σ H := by
  obtain ⟨G, as, bs, rs, re, nd, ow, c⟩ := r
  refine ⟨G, as, bs, repst_show at' rs, repe_any re (by rw [wipe_length]) fun i w h => ?_, nd, ow, c⟩
  rw [wipe_at (wipeE_at h).1]
theorem Rel.atok {z : Z} {stk : List W} {us : List V} {env : Env} {σ : St} {H : Hp} (r : Rel z stk us env σ H) : AtOk σ stk us := let ⟨_, _, _, rs, _⟩ := r; atok_of rs
/-! the list that grows lies on the stack -/
theorem Rel.snoc {z : Z} {stk : List W} {us : List V} {env : Env} {σ : St} {H : Hp} {acc : List W} {w : W} {v d : V} (r : Rel z (w :: .ol acc :: stk) (v :: d :: us) env σ H) (tw : tree w = true) (hop : z.op = false) :
    ∃ a ts, d = .ref a ∧ H a = some (.lst ts) ∧ ts.length = acc.length ∧ Rel z (.ol (acc ++ [w]) :: stk) (d :: us) env σ (upd H a (.lst (ts ++ [v]))) := by
  obtain ⟨G, as, bs, ⟨v', vs', a1, a23, e, e2, r1, d', us', a2, a3, e3, e4, rd, rs⟩, re, nd, ow, c⟩ := r
  cases e; cases e3; subst e2 e4
  obtain ⟨a, ts, as', ev, ea, ha, rw_⟩ := rd
  subst ev ea
  have l : ts.length = acc.length := (repws_rds c.gh rw_).len
  obtain ⟨hg, how⟩ := ow a (by simp)
  have pm0 : List.Perm (a1 ++ ((a :: as') ++ a3) ++ bs) (a :: (a1 ++ (as' ++ a3) ++ bs)) := by
    have := (List.perm_middle (a := a) (l₁ := a1) (l₂ := as' ++ a3 ++ bs))
    simpa [List.append_assoc] using this
  have nm := List.nodup_cons.mp ((pm0.nodup_iff).mp nd)
  have g : Ag (a1 ++ (as' ++ a3) ++ bs) H (upd H a (.lst (ts ++ [v]))) := fun b m => upd_ne fun h => nm.1 (h ▸ m)
  refine ⟨a, ts, rfl, ha, l, G, (a :: (as' ++ a1)) ++ a3, bs, ⟨.ref a, _, a :: (as' ++ a1), a3, rfl, rfl, ?_, rs.move Z.like_refl Z.sub_refl (Same.refl _) g.l.r.r⟩, re.move Z.like_refl Z.sub_refl (Same.refl _) g.r, ?_, fun b m => ow b ?_, core_upd2 c ha ⟨ts, rfl⟩ hg how hop⟩
  · exact ⟨a, ts ++ [v], as' ++ a1, rfl, rfl, upd_same, repws_snoc (rw_.move Z.like_refl Z.sub_refl (Same.refl _) g.l.r.l) ((r1.w tw).move Z.like_refl Z.sub_refl (Same.refl _) g.l.l)⟩
  · have pm : List.Perm (a :: (a1 ++ (as' ++ a3) ++ bs)) ((a :: (as' ++ a1)) ++ a3 ++ bs) := by
      have h1 := List.perm_append_comm_assoc a1 as' (a3 ++ bs)
      simpa [List.append_assoc] using List.Perm.cons a h1
    exact (pm.nodup_iff).mp ((pm0.nodup_iff).mp nd)
  · simp only [List.mem_append, List.mem_cons] at m ⊢
    rcases m with (((m | m | m) | m) | m) <;> simp [m]
/-! THE RULE -/
def compL (vs : List Nat) (g : DTG) (tt : DTT) (te : DTE) : List W → List W → Env → (List W → Env → Prop) → Prop
  | [], acc, env, k => k acc env
  | w :: r, acc, env, k => g w env (fun e1 => tt e1 (fun b e2 => if b = true then te e2 (fun y e3 => useW y e3 fun y' e4 => acc.length < sizeLine ∧ compL vs g tt te r (acc ++ [y']) (wipeE e4 vs) k) kf else compL vs g tt te r acc (wipeE e2 vs) k) kf) kf
def dComp (vs : List Nat) (ti : DTI) (g : DTG) (tt : DTT) (te : DTE) : DTE := fun env k kx => ti env (fun items e1 => compL vs g tt te items [] (wipeE e1 vs) fun acc e2 => k (.ol acc) e2) kx
/-- the tests of a comprehension -/
def DTs (X : Cx) (ifs : List Expr) (t : DTT) : Prop := ∀ O : Z → Prop, (∀ z, O z → Okz X z) → PTs X ifs (ttS O t)
def dYes : DTT := fun env k _ => k true env
theorem dts_nil : DTs X [] dYes := fun O hO => ⟨fun pins s σ H Q I ⟨z, stk, vs, env, k, ok, r, ht, q⟩ => pts_nil.run pins s σ H Q I (q true env H r ht)⟩
theorem dts_one {tt : DTT} (h : DT X c tt) : DTs X [c] tt := fun O hO => pts_one (h.star hO)
theorem comp_run {O : Z → Prop} (hop : ∀ z, O z → z.op = false) {wi : TI} {g : DTG} {tt : DTT} {te : DTE} {sl vs : List Nat} (hsl : ∀ i ∈ sl, i ∈ vs) {z : Z} {stk : List W} {us : List V} {env : Env} {σ : St} {H : Hp} {Q : VK} {k : DK} {items src : List W} {usrc : List V} {J : It}
    (ok : O z) (ns : src.all noat = true) (ts : items.all tree = true) (lsrc : usrc.length = src.length) (gen : GenOk z J items src usrc) (r : Rel z (src ++ stk) (usrc ++ us) env σ H)
    (hk : compL vs g tt te items [] (wipeE env vs) fun acc e2 => k (.ol acc) e2) (q : ∀ w env' v H', Rel z (w :: stk) (v :: us) env' σ H' → k w env' → Q v H') (Dd : Addr) (hD : H Dd = none) :
    ∃ W : Nat → Nat → Hp → Prop, (∃ m, W 0 m (upd H Dd (.lst []))) ∧ ∀ i m H, W i m H → (J.stop i H ∧ Q (.ref Dd) H) ∨ (J.go i H ∧ ∃ Nx : Hp → Prop, (∀ H', Nx H' → ∃ m', m' < m ∧ W (i + 1) m' H') ∧ ∀ x H', J.yld i H x H' → tgS O sl g x (wipe σ vs) H' fun σ2 H2 => wipe σ2 vs = wipe σ vs ∧ ttS O tt σ2 H2 fun b H3 =>
      if b = true then teS O te σ2 H3 fun y H4 => ∃ acc, H4 Dd = some (.lst acc) ∧ acc.length < sizeLine ∧ Nx (upd H4 Dd (.lst (acc ++ [y]))) else Nx H3) := by
  have hat := r.drop (s1 := src) (u1 := usrc) lsrc |>.atok
  have hsrc : src.map hide = src := by
    have : ∀ {l : List W}, l.all noat = true → l.map hide = l := by
      intro l
      induction l with
      | nil => intro _; rfl
      | cons w l ih =>
        intro h
        obtain ⟨h1, h2⟩ := band (show (noat w && l.all noat) = true from h)
        rw [List.map_cons, ih h2]
        cases w <;> first | rfl | cases h1
    exact this ns
  have r0 : Rel z (src ++ stk.map hide) (usrc ++ us) (wipeE env vs) (wipe σ vs) H := by
    have := r.into vs
    rw [List.map_append, hsrc] at this
    exact this
  have na : ∀ {acc : List W}, (src ++ .ol acc :: stk.map hide).all noat = true := fun {acc} => by
    rw [List.all_append, ns]
    show (true && (true && (stk.map hide).all noat)) = true
    rw [hide_noat]; rfl
  -- the list at Dd lies below the source
  have rD : Rel z (src ++ .ol [] :: stk.map hide) (usrc ++ .ref Dd :: us) (wipeE env vs) (wipe σ vs) (upd H Dd (.lst [])) := Rel.down (Rel.newL (ws := []) (us := []) r0 rfl rfl hD (hop z ok)) lsrc
  refine ⟨fun i m H => ∃ acc env2, m = items.length - i ∧ i ≤ items.length ∧ Rel z (src ++ .ol acc :: stk.map hide) (usrc ++ .ref Dd :: us) (wipeE env2 vs) (wipe σ vs) H ∧ compL vs g tt te (items.drop i) acc (wipeE env2 vs) fun acc e2 => k (.ol acc) e2, ⟨items.length, [], env, by omega, Nat.zero_le _, rD, hk⟩, fun i m H2 hW => ?_⟩
  obtain ⟨acc, env2, em, hi, r2, k2⟩ := hW
  have gi := gen _ _ _ _ _ r2 i hi
  by_cases hlt : i < items.length
  · have hd : items.drop i = items[i] :: items.drop (i + 1) := List.drop_eq_getElem_cons hlt
    rw [hd] at k2
    obtain ⟨go, yld⟩ := gi.2 items[i] (List.getElem?_eq_getElem hlt)
    refine .inr ⟨go, fun H3 => ∃ acc env3, Rel z (src ++ .ol acc :: stk.map hide) (usrc ++ .ref Dd :: us) (wipeE env3 vs) (wipe σ vs) H3 ∧ compL vs g tt te (items.drop (i + 1)) acc (wipeE env3 vs) fun acc e2 => k (.ol acc) e2, fun H3 ⟨acc3, env3, r3, k3⟩ => ⟨items.length - (i + 1), by omega, acc3, env3, rfl, hlt, r3, k3⟩, fun x H3 hy => ?_⟩
    have r3 := yld x H3 hy
    have tw : tree items[i] = true := List.all_eq_true.mp ts _ (List.getElem_mem hlt)
    refine ⟨z, _, _, _, items[i], _, ok, na, tw, r3, k2, fun env4 σ4 H4 r4 ch k4 => ⟨wipe_chg ch hsl |>.trans ?_, ?_⟩⟩
    · exact wipe_chg (sl := vs) ⟨wipe_length .., fun i m => wipe_at m⟩ fun i m => m
    have hw4 : wipe σ4 vs = wipe σ vs := (wipe_chg ch hsl).trans (wipe_chg (sl := vs) ⟨wipe_length .., fun i m => wipe_at m⟩ fun i m => m)
    refine ⟨z, _, _, env4, _, ok, r4, k4, fun b env5 H5 r5 k5 => ?_⟩
    cases b with
    | false =>
      rw [if_neg (by decide)]
      rw [if_neg (by decide)] at k5
      have r6 := r5.again na vs
      rw [hw4] at r6
      exact ⟨acc, env5, r6, k5⟩
    | true =>
      rw [if_pos rfl]
      rw [if_pos rfl] at k5
      refine ⟨z, _, _, env5, _, ok, r5, k5, fun y env6 v H6 r6 k6 => ?_⟩
      obtain ⟨y', env7, t7, _, r7, hl, k7⟩ := r6.useW k6
      -- the list comes up below y
      have r8 : Rel z (.ol acc :: y' :: (src ++ stk.map hide)) (.ref Dd :: v :: (usrc ++ us)) env7 σ4 H6 := Rel.up (s1 := y' :: src) (u1 := v :: usrc) r7 (congrArg Nat.succ lsrc)
      obtain ⟨a, tsx, ed, ha, lts, r9⟩ := (Rel.swap r8).snoc t7 (hop z ok)
      cases ed
      have r10 := Rel.down r9 lsrc
      have r11 := r10.again na vs
      rw [hw4] at r11
      exact ⟨tsx, ha, by rw [lts]; exact hl, acc ++ [y'], env7, r11, k7⟩
  · have e : i = items.length := by omega
    subst e
    rw [List.drop_length] at k2
    refine .inl ⟨gi.1 rfl, ?_⟩
    have r3 := Rel.drop r2 lsrc
    have r4 : Rel z (.ol acc :: stk) (.ref Dd :: us) (wipeE env2 vs) σ H2 := Rel.out (stk := .ol acc :: stk) ⟨.ref Dd, us, rfl, (fun i e => nomatch e), hat⟩ r3
    exact q _ _ _ _ r4 k2
theorem de_comp {elt tg iter : Expr} {ifs : List Expr} {scope : Scope} {own : List (Str × Nat)} {ti : DTI} {g : DTG} {tt : DTT} {te : DTE} {sl : List Nat} (hc : X.calm = true) (hN : X.N.Nodup) (ok : BlkOk X.N X.env.scope scope own) (hsl : ∀ i ∈ sl, i ∈ own.map (·.2)) (hi : DI X tg iter ti)
    (hg : ∀ (s : Shared) (H : Hp) (C : Addr) (cl : List (Str × Addr)) (fp : List Addr), DG (X.blk s H scope (compEnvC scope cl C X.env) fp) tg sl g) (ht : ∀ (s : Shared) (H : Hp) (C : Addr) (cl : List (Str × Addr)) (fp : List Addr), DTs (X.blk s H scope (compEnvC scope cl C X.env) fp) ifs tt)
    (he : ∀ (s : Shared) (H : Hp) (C : Addr) (cl : List (Str × Addr)) (fp : List Addr), DE (X.blk s H scope (compEnvC scope cl C X.env) fp) elt te) (hs : ∀ x, foldedSetIterable iter X.env x = pure x) :
    DE X (.ListComp elt [⟨tg, iter, ifs, 0⟩] scope pos) (dComp (own.map (·.2)) ti g tt te) := fun Wx tk => by
  obtain ⟨wi, p, f⟩ := hi Wx tk
  refine ⟨_, pe_lc (g := tgS (Okz2 X.K X.mg X.calm) sl g) (tt := ttS (Okz2 X.K X.mg X.calm) tt) (te := teS (Okz2 X.K X.mg X.calm) te) hc hN p ok (fun s H C cl fp => (hg s H C cl fp).star fun z h => Okz2.o (X := X.blk s H scope (compEnvC scope cl C X.env) fp) h) (fun s H C cl fp => ht s H C cl fp _ fun z h => Okz2.o (X := X.blk s H scope (compEnvC scope cl C X.env) fp) h) (fun s H C cl fp => (he s H C cl fp).star fun z h => Okz2.o (X := X.blk s H scope (compEnvC scope cl C X.env) fp) h) hs, fun z stk us env σ H Q k kx okz r t q qx => ?_⟩
  refine f z stk us env σ H _ _ kx okz r t (fun items env' J H' src usrc ns ts lsrc gen r1 k1 => ?_) qx
  exact fun Dd hD => comp_run (fun z h => Okz2.op h) (wi := wi) hsl (okz.o2 hc) ns ts lsrc gen r1 k1 q Dd hD
/-- y = [..] on one line, y a local -/
theorem ds_asgC {i : Nat} {y : Str} {py spos : Pos} {elt tg iter : Expr} {ifs : List Expr} {scope : Scope} {own : List (Str × Nat)} {ti : DTI} {g : DTG} {tt : DTT} {te : DTE} {sl : List Nat} (hc : X.calm = true) (hN : X.N.Nodup) (hy : X.N[i]? = some y) (hyl : X.env.scope.names.lookup y = some .local)
    (hsw : swapsWith (.ListComp elt [⟨tg, iter, ifs, 0⟩] scope pos) (some (.Name y py)) spos.line X.env = pure true) (ok : BlkOk X.N X.env.scope scope own) (hsl : ∀ i ∈ sl, i ∈ own.map (·.2)) (hi : DI X tg iter ti)
    (hg : ∀ (s : Shared) (H : Hp) (C : Addr) (cl : List (Str × Addr)) (fp : List Addr), DG (X.blk s H scope (compEnvC scope cl C X.env) fp) tg sl g) (ht : ∀ (s : Shared) (H : Hp) (C : Addr) (cl : List (Str × Addr)) (fp : List Addr), DTs (X.blk s H scope (compEnvC scope cl C X.env) fp) ifs tt)
    (he : ∀ (s : Shared) (H : Hp) (C : Addr) (cl : List (Str × Addr)) (fp : List Addr), DE (X.blk s H scope (compEnvC scope cl C X.env) fp) elt te) (hs : ∀ x, foldedSetIterable iter X.env x = pure x) (hgn : DG X (.Name y py) [i] (gN i)) :
    DS X (.Assign [.Name y py] (.ListComp elt [⟨tg, iter, ifs, 0⟩] scope pos) spos) (dAsg (dComp (own.map (·.2)) ti g tt te) (gN i)) := fun Wx tk => by
  obtain ⟨wi, p, f⟩ := hi Wx tk
  refine ⟨_, ps_setLc (g := tgS (Okz2 X.K X.mg X.calm) sl g) (tt := ttS (Okz2 X.K X.mg X.calm) tt) (te := teS (Okz2 X.K X.mg X.calm) te) hc hN hy hyl hsw p ok (fun s H C cl fp => (hg s H C cl fp).star fun z h => Okz2.o (X := X.blk s H scope (compEnvC scope cl C X.env) fp) h) (fun s H C cl fp => ht s H C cl fp _ fun z h => Okz2.o (X := X.blk s H scope (compEnvC scope cl C X.env) fp) h) (fun s H C cl fp => (he s H C cl fp).star fun z h => Okz2.o (X := X.blk s H scope (compEnvC scope cl C X.env) fp) h) hs, fun z stk us env σ H D E kx okz na r t q => ?_⟩
  refine f z stk us env σ H _ _ kx okz r t (fun items env' J H' src usrc ns ts lsrc gen r1 k1 => ?_) fun x env' cls d H' => q.x x env' cls d σ H'
  refine fun Dd hD => comp_run (fun z h => Okz2.op h) (wi := wi) (g := g) (tt := tt) (te := te) (Q := fun x H1 => gName i x σ H1 D.nx) (k := fun w e1 => useW w e1 fun w' e2 => gN i w' e2 E.nx kx) hsl (okz.o2 hc) ns ts lsrc gen r1 k1 (fun w env2 v H2 r2 k2 => ?_) Dd hD
  obtain ⟨w', e3, t3, _, r3, hl, hk⟩ := r2.useW k2
  -- the store by its own rule
  obtain ⟨G, as, bs, ⟨v', vs', a1, a2, e, e2, q1, q2⟩, re, nd, ow, c⟩ := r3
  cases e; subst e2
  obtain ⟨b1, bi, b2, eb, ff⟩ := re.put hl
  subst eb
  refine q.nx _ _ _ ⟨G, a2, b1 ++ (a1 ++ b2), q2.set na, ff w' v a1 (q1.w t3), ?_, fun a m => ow a ?_, c⟩ hk
  · have sub : List.Sublist (a2 ++ (b1 ++ b2)) (a2 ++ (b1 ++ (bi ++ b2))) := List.Sublist.append_left (List.Sublist.append_left (List.sublist_append_right _ _) _) _
    have nd1 : (a1 ++ (a2 ++ (b1 ++ b2))).Nodup := by
      rw [List.append_assoc] at nd
      exact nodup_sub (List.Sublist.append_left sub _) nd
    have pm : List.Perm (a1 ++ (a2 ++ (b1 ++ b2))) (a2 ++ (b1 ++ (a1 ++ b2))) := by
      have h1 := List.perm_append_comm_assoc a1 (a2 ++ b1) b2
      simpa [List.append_assoc] using h1
    exact (pm.nodup_iff).mp nd1
  · simp only [List.mem_append] at m ⊢
    rcases m with m | m | m | m <;> simp [m]
end
end DL

/-! DL14: defs and their calls. -/
namespace DL
open PySem PySem.Spec
open PyProof.Rows L2
/-! arguments -/
def isArg : W → Bool
  | .d _ => true
  | .sto => true
  | .exn _ _ => true
  | _ => false
def argD (w : W) (env : Env) (k : W → Env → Prop) : Prop := match peek env w with
  | some .sto => k .sto env
  | some (.exn c fs) => k (.exn c fs) env
  | _ => useD w env fun x e => k (.d x) e
def argsD : List W → Env → (List W → Env → Prop) → Prop
  | [], env, k => k [] env
  | w :: ws, env, k => argD w env fun w' e => argsD ws e fun ws' e' => k (w' :: ws') e'
section
variable {z : Z} {stk : List W} {vs : List V} {env : Env} {σ : St} {H : Hp} {w : W} {v : V}
theorem Rel.top0 {w' : W} (r : Rel z (w :: stk) (v :: vs) env σ H) (h : peek env w = some w') (q : ∀ {G as}, RepW z G H w' v as → RepW z G H w' v []) : Rel z (w' :: stk) (v :: vs) env σ H := by
  obtain ⟨G, r⟩ := r
  obtain ⟨cs, rv⟩ := RelG.view r h
  obtain ⟨as, bs, ⟨v', vs', a1, a2, e, e2, r1, r2⟩, re, nd, ow, c⟩ := r
  cases e; subst e2
  refine ⟨G, a2, bs, ⟨v, vs, [], a2, rfl, rfl, .of (q rv), r2⟩, re, ?_, fun a m => ow a ?_, c⟩
  · rw [List.append_assoc] at nd
    exact (List.nodup_append.mp nd).2.1
  · rw [List.append_assoc]
    exact List.mem_append_right _ m
theorem Rel.argD {k : W → Env → Prop} (r : Rel z (w :: stk) (v :: vs) env σ H) (u : DL.argD w env k) : ∃ w' env', isArg w' = true ∧ Rel z (w' :: stk) (v :: vs) env' σ H ∧ k w' env' := by
  unfold DL.argD at u
  split at u
  · rename_i h
    exact ⟨.sto, env, rfl, r.top0 h fun r => ⟨rfl, r.2⟩, u⟩
  · rename_i h
    exact ⟨.exn _ _, env, rfl, r.top0 h fun r => ⟨rfl, r.2⟩, u⟩
  · obtain ⟨x, e, r1, hk⟩ := r.useD u
    exact ⟨.d x, e, rfl, r1, hk⟩
theorem Rel.args : ∀ {ws : List W} {us : List V} {stk : List W} {vs : List V} {env : Env} {k : List W → Env → Prop}, Rel z (ws ++ stk) (us ++ vs) env σ H → us.length = ws.length → argsD ws env k →
    ∃ ws' env', ws'.all isArg = true ∧ ws'.length = ws.length ∧ Rel z (ws' ++ stk) (us ++ vs) env' σ H ∧ k ws' env'
  | [], us, stk, vs, env, k, r, l, u => ⟨[], env, rfl, rfl, r, u⟩
  | w :: ws, [], stk, vs, env, k, r, l, u => nomatch l
  | w :: ws, v :: us, stk, vs, env, k, r, l, u => by
    obtain ⟨w', e1, t1, r1, u1⟩ := Rel.argD (w := w) (stk := ws ++ stk) (vs := us ++ vs) r u
    obtain ⟨ws', e2, t2, l2, r2, u2⟩ := Rel.args (Rel.down r1 (Nat.succ.inj l)) (Nat.succ.inj l) u1
    refine ⟨w' :: ws', e2, ?_, congrArg Nat.succ l2, Rel.up r2 ((Nat.succ.inj l).trans l2.symm), u2⟩
    show (isArg w' && ws'.all isArg) = true
    rw [t1, t2]; rfl
end
/-! leaves that stand without the frozen part -/
def flatL : D → Bool
  | .non => true
  | .bl _ => true
  | .int _ => true
  | .str _ => true
  | .ty _ => true
  | .glo _ => true
  | _ => false
mutual
def clear : W → Bool
  | .d x => flatL x
  | .ol ws => clears ws
  | .ot ws => clears ws
  | .oi _ fs => clearf fs
  | .od kvs => cleark kvs
  | _ => false
def clears : List W → Bool
  | [] => true
  | w :: ws => clear w && clears ws
def clearf : List (String × W) → Bool
  | [] => true
  | (_, w) :: ws => clear w && clearf ws
def cleark : List (Key × W) → Bool
  | [] => true
  | (_, w) :: ws => clear w && cleark ws
end
section
variable {z z' : Z} {G G' H : Hp}
theorem Rep.flat {x : D} {v : V} (e : z.like z') (h : flatL x = true) (r : Rep z G x v) : Rep z' G' x v := by
  cases x <;> first | exact r | cases h | skip
  obtain ⟨a, m, q⟩ := r
  exact ⟨a, by rw [← e.m]; exact m, q⟩
mutual
theorem RepW.clear (e : z.like z') : ∀ {w : W} {v : V} {as : List Addr}, DL.clear w = true → RepW z G H w v as → RepW z' G' H w v as
  | .d _, _, _, h, ⟨q, r⟩ => ⟨q, Rep.flat e h r⟩
  | .ol _, _, _, h, ⟨a, vs, as', q, q2, s, r⟩ => ⟨a, vs, as', q, q2, s, RepWs.clear e h r⟩
  | .ot _, _, _, h, ⟨a, vs, as', q, q2, s, r⟩ => ⟨a, vs, as', q, q2, s, RepWs.clear e h r⟩
  | .oi _ _, _, _, h, ⟨a, C, dx, vs, as', q, q2, m, s, s2, r⟩ => ⟨a, C, dx, vs, as', q, q2, by rw [← e.m]; exact m, s, s2, RepWf.clear e h r⟩
  | .od _, _, _, h, ⟨a, vs, as', q, q2, s, r⟩ => ⟨a, vs, as', q, q2, s, RepWk.clear e h r⟩
  | .sto, _, _, h, _ => nomatch h
  | .exn _ _, _, _, h, _ => nomatch h
  | .at_ _, _, _, h, _ => nomatch h
  | .hole, _, _, h, _ => nomatch h
theorem RepWs.clear (e : z.like z') : ∀ {w : List W} {v : List V} {as : List Addr}, DL.clears w = true → RepWs z G H w v as → RepWs z' G' H w v as
  | [], _, _, _, r => r
  | _ :: _, _, _, h, ⟨v, vs, a1, a2, q, q2, r, r2⟩ => ⟨v, vs, a1, a2, q, q2, RepW.clear e (band h).1 r, RepWs.clear e (band h).2 r2⟩
theorem RepWf.clear (e : z.like z') : ∀ {w : List (String × W)} {v : List (Str × V)} {as : List Addr}, DL.clearf w = true → RepWf z G H w v as → RepWf z' G' H w v as
  | [], _, _, _, r => r
  | (_, _) :: _, _, _, h, ⟨v, vs, a1, a2, q, q2, r, r2⟩ => ⟨v, vs, a1, a2, q, q2, RepW.clear e (band h).1 r, RepWf.clear e (band h).2 r2⟩
theorem RepWk.clear (e : z.like z') : ∀ {w : List (Key × W)} {v : List (Key × V)} {as : List Addr}, DL.cleark w = true → RepWk z G H w v as → RepWk z' G' H w v as
  | [], _, _, _, r => r
  | (_, _) :: _, _, _, h, ⟨v, vs, a1, a2, q, q2, r, r2⟩ => ⟨v, vs, a1, a2, q, q2, RepW.clear e (band h).1 r, RepWk.clear e (band h).2 r2⟩
end
end
/-! into a callee and back -/
def Z.inn (z : Z) (G H : Hp) : Z := { z with H0 := H, G0 := G }
section
variable {z : Z} {stk : List W} {vs : List V} {env : Env} {σ : St} {G G1 G2 G' H H' : Hp} {w : W} {v : V}
theorem Core.inn (c : Core z G H) (hop : z.op = false) : Core (z.inn G H) G H := by
  refine ⟨Same.refl _, c.gh, fun b o e _ => e, fun b h => .inl h, fun s hs => ⟨c.sG hop hs, ?_⟩, fun i hi dx hd => ?_, fun _ s hs => ?_⟩
  · obtain ⟨o, e⟩ := (c.sto hop s hs).there
    show H s ≠ none
    rw [e]; exact fun q => nomatch q
  · obtain ⟨us, h1, h2⟩ := c.xd i hi dx hd
    exact ⟨us, h1, RepF.like (z := z) (z' := z.inn G H) ⟨rfl, rfl, fun _ h => h⟩ h2⟩
  · obtain ⟨p, g, f, r, cc, u, xs, h1, h2, h3, h4, h5⟩ := c.sto hop s hs
    exact ⟨p, g, f, r, cc, u, xs, h1, h2, h3, Rep.like (z := z) (z' := z.inn G H) ⟨rfl, rfl, fun _ h => h⟩ (Rep.mono c.g0 h4), h5⟩
theorem Core.after (c : Core z G H) (hop : z.op = false) (c' : Core (z.inn G1 H) G' H') (g1 : Same G G2) (g2 : Same G2 H') (g3 : ∀ b, G2 b ≠ none → G b ≠ none ∨ H b = none) : Core z G2 H' := by
  have ns : ∀ {b : Addr} {o o2 : HO} {s : Addr}, z.s = some s → H s = some o2 → H b = some o → (∀ vs, o ≠ .lst vs) → (∃ vs, o2 = .lst vs) → b ≠ s := fun hs h1 h2 h3 ⟨vs, h4⟩ e => by
    subst e; rw [h1] at h2; cases h2; exact h3 vs h4
  refine ⟨c.g0.trans g1, g2, fun b o e n => c'.keep b o (c.keep b o e n) n, fun b h => ?_, c.sH, fun i hi dx hd => ?_, fun _ s hs => ?_⟩
  · rcases g3 b h with h | h
    · exact c.fresh b h
    · exact .inr (c.newOwn h hop).2
  · obtain ⟨us, h1, h2⟩ := c.xd i hi dx hd
    refine ⟨us, c'.keep dx _ h1 fun hs => ?_, RepF.mono g1 h2⟩
    obtain ⟨_, _, _, _, _, _, _, _, e, _⟩ := c.sto hop dx hs
    rw [h1] at e; cases e
  · obtain ⟨p, g, f, r, cc, u, xs, h1, h2, h3, h4, h5⟩ := c.sto hop s hs
    obtain ⟨p', g', f', r', cc', u', xs', k1, k2, k3, k4, k5⟩ := c'.sto hop s hs
    have eu : u' = u := by
      have k1 : z.sv = some u' := k1
      rw [h1] at k1; exact (Option.some.inj k1).symm
    subst eu
    exact ⟨p', g', f', r', cc', u', xs, h1, k2, k3, h4, h5⟩
theorem RelG.after (r : RelG z G stk vs env σ H) (hop : z.op = false) (c' : Core (z.inn G1 H) G' H') (g1 : Same G G2) (g2 : Same G2 H') (g3 : ∀ b, G2 b ≠ none → G b ≠ none ∨ H b = none) :
    ∃ as bs, RepSt z G2 H' σ stk vs as ∧ RepE z G2 H' env σ bs ∧ (as ++ bs).Nodup ∧ (∀ a ∈ as ++ bs, (G2 a = none ∧ z.Own a) ∧ H a ≠ none) ∧ Core z G2 H' := by
  obtain ⟨as, bs, rs, re, nd, ow, c⟩ := r
  have th : ∀ a ∈ as ++ bs, ∃ o, H a = some o := fun a m => (List.mem_append.mp m).elim (rs.there a) (re.there a)
  have ag : Ag (as ++ bs) H H' := fun a m => by
    obtain ⟨o, e⟩ := th a m
    rw [e]
    refine c'.keep a o e fun hs => ?_
    have hs : z.s = some a := hs
    rcases (ow a m).2 with h | ⟨h, _⟩
    · exact (c.sH a hs).2 h
    · rw [hop] at h; cases h
  refine ⟨as, bs, rs.move Z.like_refl Z.sub_refl g1 ag.l, re.move Z.like_refl Z.sub_refl g1 ag.r, nd, fun a m => ⟨⟨?_, (ow a m).2⟩, ?_⟩, c.after hop c' g1 g2 g3⟩
  · cases e : G2 a with
    | none => rfl
    | some o =>
      rcases g3 a (by rw [e]; exact fun q => nomatch q) with h | h
      · exact absurd (ow a m).1 h
      · obtain ⟨o2, e2⟩ := th a m
        rw [h] at e2; cases e2
  · obtain ⟨o2, e2⟩ := th a m
    rw [e2]; exact fun q => nomatch q
/-- the callee's value comes onto the stack -/
theorem RelG.back (r : RelG z G stk vs env σ H) (hop : z.op = false) (r' : RelG (z.inn G1 H) G' [w] [v] [] [] H') (tw : tree w = true) (g1 : Same G G2) (g2 : Same G2 H') (g3 : ∀ b, G2 b ≠ none → G b ≠ none ∨ H b = none)
    (hw : ∀ as, RepW (z.inn G1 H) G' H' w v as → (∀ a ∈ as, G' a = none ∧ H a = none) → RepW z G2 H' w v as ∧ ∀ a ∈ as, G2 a = none) : Rel z (w :: stk) (v :: vs) env σ H' := by
  obtain ⟨as1, bs1, ⟨v', vs', a1, a2, e, e2, q1, ⟨q2, q3⟩⟩, ⟨_, q4⟩, nd1, ow1, c'⟩ := r'
  cases e
  subst e2 q3 q4
  have c := r.core
  obtain ⟨as, bs, rs, re, nd, ow, c2⟩ := RelG.after r hop c' g1 g2 g3
  have hn : ∀ a ∈ a1, H a = none := fun a m => by
    rcases (ow1 a (by simpa using m)).2 with h | ⟨h, _⟩
    · exact h
    · rw [show (z.inn G1 H).op = z.op from rfl, hop] at h; cases h
  obtain ⟨rw2, gn⟩ := hw a1 (q1.w tw) fun a m => ⟨(ow1 a (by simpa using m)).1, hn a m⟩
  refine ⟨G2, a1 ++ as, bs, ⟨v, vs, a1, as, rfl, rfl, .of rw2, rs⟩, re, ?_, fun a m => ?_, c2⟩
  · rw [List.append_assoc]
    refine List.nodup_append.mpr ⟨by simpa using nd1, nd, fun a m b m2 e => ?_⟩
    subst e
    exact (ow a m2).2 (hn a m)
  · rw [List.append_assoc] at m
    rcases List.mem_append.mp m with m | m
    · exact ⟨gn a m, (c.newOwn (hn a m) hop).2⟩
    · exact (ow a m).1
theorem Z.inn_like : (z.inn G H).like z := ⟨rfl, rfl, fun _ h => h⟩
theorem Z.inn_sub : (z.inn G H).sub z := ⟨fun _ h => h, fun _ h => h, fun _ h => h, fun h => h⟩
theorem Core.fresh_inn (c' : Core (z.inn G H) G' H') (hop : z.op = false) : ∀ b, G' b ≠ none → G b ≠ none ∨ H b = none := fun b h => by
  rcases c'.fresh b h with h | h | ⟨h, _⟩
  · exact .inl h
  · exact .inr h
  · rw [show (z.inn G H).op = z.op from rfl, hop] at h; cases h
theorem RelG.back1 (r : RelG z G stk vs env σ H) (hop : z.op = false) (r' : Rel (z.inn G H) [w] [v] [] [] H') (tw : tree w = true) : Rel z (w :: stk) (v :: vs) env σ H' := by
  obtain ⟨G', r'⟩ := r'
  have c' := RelG.core r'
  exact RelG.back r hop r' tw c'.g0 c'.gh (c'.fresh_inn hop) fun as h hn => ⟨h.move Z.inn_like Z.inn_sub (Same.refl _) fun _ _ => rfl, fun a m => (hn a m).1⟩
theorem Rel.back0 (r : Rel z stk vs env σ H) (hop : z.op = false) (r' : Rel (z.inn G1 H) [w] [v] [] [] H') (tw : tree w = true) (cl : clear w = true) : Rel z (w :: stk) (v :: vs) env σ H' := by
  obtain ⟨G, r⟩ := r
  obtain ⟨G', r'⟩ := r'
  have c := RelG.core r
  have c' := RelG.core r'
  have g2 : Same G H' := fun b o e => by
    refine c'.keep b o (c.gh b o e) fun hs => ?_
    have := c.sG hop hs
    rw [e] at this; cases this
  refine RelG.back r hop r' tw (Same.refl _) g2 (fun b h => .inl h) fun as h hn => ⟨RepW.clear Z.inn_like cl h, fun a m => c.gh.free (hn a m).2⟩
/-- an error out of the callee -/
theorem RelG.backX {x : Exn} {cls : Value} {d : Option Addr} {env0 : Env} {σ0 : St} (r : RelG z G stk vs env σ H) (hop : z.op = false) (r' : RelX (z.inn G H) [] [] x cls d env0 σ0 H') : RelX z stk vs x cls d env σ H' := by
  obtain ⟨G', C, r', h1, h2, h3⟩ := r'
  have c' := RelG.core r'
  obtain ⟨as, bs, rs, re, nd, ow, c2⟩ := RelG.after r hop c' c'.g0 c'.gh (c'.fresh_inn hop)
  refine ⟨G', C, ⟨as, bs, rs, re, nd, fun a m => (ow a m).1, c2⟩, h1, h2, ?_⟩
  obtain ⟨xc, fs⟩ := x
  cases fs with
  | nil => exact h3
  | cons p fs =>
    obtain ⟨dx, us, e1, e2, e3⟩ := h3
    exact ⟨dx, us, e1, e2, RepF.like Z.inn_like e3⟩
end
end DL
namespace DL
open PySem PySem.Spec
open PyProof.Rows L2
/-! promises over plain data -/
abbrev DSp := List W → (W → Prop) → (Exn → Prop) → Prop
def toSp (K : PySem.W.Frag) (mg : Str → Option Value) (n : Nat) (s : DSp) : Sp := fun vs H Q E => vs.length = n ∧ ∃ (z : Z) (ws : List W) (k : W → Prop) (kx : Exn → Prop), z.K = K ∧ z.mg = mg ∧ (z.op = false ∧ z.ex = none ∧ z.lx = false) ∧ z.H0 = H ∧ ws.all isArg = true ∧ RepWs z z.G0 H ws vs [] ∧ Core z z.G0 H ∧ s ws k kx ∧
  (∀ w v H', tree w = true → Rel z [w] [v] [] [] H' → k w → Q v H') ∧ ∀ x env σ cls d H', RelX z [] [] x cls d env σ H' → kx x → E cls d H'
def startE (N : List Str) (ws : List W) : Env := ws.map some ++ List.replicate (N.length - ws.length) none
def retE (k : W → Prop) : DEnds := { nx := fun _ => k (.d .non), rt := fun w e => ∃ w0, peek e w = some w0 ∧ k w0 }
theorem repe_none_all {z : Z} {G H : Hp} : ∀ n, RepE z G H (List.replicate n none) (List.replicate n none) []
  | 0 => ⟨rfl, rfl⟩
  | n + 1 => ⟨none, List.replicate n none, rfl, repe_none_all n⟩
theorem repe_start {z : Z} {G H : Hp} {m : Nat} : ∀ {ws : List W} {vs : List V} {as : List Addr}, RepWs z G H ws vs as → RepE z G H (ws.map some ++ List.replicate m none) (vs.map some ++ List.replicate m none) as
  | [], _, _, ⟨q, q2⟩ => by subst q q2; exact repe_none_all m
  | w :: ws, _, _, ⟨v, vs, a1, a2, q, q2, r, r2⟩ => by subst q q2; exact ⟨v, _, a1, a2, rfl, rfl, r, repe_start r2⟩
theorem repws_len {z : Z} {G H : Hp} : ∀ {ws : List W} {vs : List V} {as : List Addr}, RepWs z G H ws vs as → vs.length = ws.length
  | [], _, _, ⟨q, _⟩ => by subst q; rfl
  | _ :: _, _, _, ⟨v, vs, _, _, q, _, _, r⟩ => by subst q; exact congrArg Nat.succ (repws_len r)
theorem rel_start {z : Z} {H : Hp} {ws : List W} {vs : List V} {N : List Str} (r : RepWs z z.G0 H ws vs []) (c : Core z z.G0 H) : Rel z [] [] (startE N ws) (start N vs) H := by
  refine ⟨z.G0, [], [], ⟨rfl, rfl⟩, ?_, List.nodup_nil, fun a m => by simp at m, c⟩
  have e := repws_len r
  show RepE z z.G0 H (ws.map some ++ List.replicate (N.length - ws.length) none) (vs.map some ++ List.replicate (N.length - vs.length) none) []
  rw [e]
  exact repe_start r
/-- what a def hands back leaves its slot -/
theorem Rel.out1 {z : Z} {w w0 : W} {v : V} {env : Env} {σ : St} {H : Hp} (r : Rel z [w] [v] env σ H) (h : peek env w = some w0) : Rel z [w0] [v] [] [] H := by
  obtain ⟨G, as, bs, ⟨v', vs', a1, a2, e, e2, r1, ⟨q1, q2⟩⟩, re, nd, ow, c⟩ := r
  cases e
  subst e2 q2
  rw [List.append_nil] at nd ow
  have own : ∀ {as : List Addr}, RepW z G H w0 v as → List.Sublist as (a1 ++ bs) → Rel z [w0] [v] [] [] H := fun {as} h s =>
    ⟨G, as ++ [], [], ⟨v, [], as, [], rfl, rfl, .of h, ⟨rfl, rfl⟩⟩, ⟨rfl, rfl⟩, by rw [List.append_nil, List.append_nil]; exact nodup_sub s nd, fun a m => ow a (s.subset (by simpa using m)), c⟩
  cases w with
  | at_ i =>
    obtain ⟨_, e⟩ := r1
    have h2 : env[i]? = some (some w0) := by
      have h3 : (match env[i]? with | some (some w) => some w | _ => none) = some w0 := h
      cases e1 : env[i]? with
      | none => rw [e1] at h3; cases h3
      | some o =>
        rw [e1] at h3
        cases o with
        | none => cases h3
        | some w1 => cases h3; rfl
    obtain ⟨v2, b1, bi, b2, e2, e3, h3, _⟩ := re.at_ h2
    rw [e] at e2
    cases e2
    subst e3
    exact own h3 ((List.sublist_append_left _ _).trans ((List.sublist_append_right _ _).trans (List.sublist_append_right _ _)))
  | hole => cases h
  | _ => cases h; exact own r1 (List.sublist_append_left _ _)
theorem peek_tree {env : Env} {w w0 : W} {z : Z} {v : V} {σ : St} {H : Hp} (r : Rel z [w] [v] env σ H) (h : peek env w = some w0) : tree w0 = true := by
  obtain ⟨G, r⟩ := r
  obtain ⟨as, rv⟩ := RelG.view r h
  cases w0 <;> first | rfl | exact rv.elim

/-! the place of a def's walk -/
structure FB (N : List Str) (sc : Scope) (fs : Option Scope) (k : Nat) (X : Cx) : Prop where
  n : X.N = N
  nd : X.N.Nodup
  sc : X.env.scope = sc
  fn : ∀ x, (fs.elim true fun s => s.names.lookup x == some .cell) = true → X.fn x = true
  rm : L2H.RoomH k X.A
theorem FB.un {N : List Str} {sc : Scope} {fs : Option Scope} {k : Nat} {X : Cx} (h : FB N sc fs k X) : X.A.units + 64 < cLine := by have := h.rm.un; omega
/-- .. nothing is handled -/
structure FX (N : List Str) (sc : Scope) (fs : Option Scope) (k : Nat) (X : Cx) : Prop extends FB N sc fs k X where
  calm : X.calm = true
  room : Room k X.A
  top : fs = none → X.stack = X.env :: X.outer ∧ X.env.frame = some X.env.locals
/-- a block's scope within one -/
def relS (s2 sc : Scope) : Scope := { s2 with names := s2.names.map fun (n, k) => if (k == .free && sc.kind == .function && sc.names.lookup n == some .cell) then (n, .cell) else (n, k) }
theorem FX.blk {N : List Str} {sc sc2 : Scope} {fs : Option Scope} {k : Nat} {X : Cx} (h : FX N sc fs k X) (s : Shared) (H : Hp) (C : Addr) (cl : List (Str × Addr)) (fp : List Addr) : FX N (relS sc2 sc) (some sc2) k (X.blk s H sc2 (compEnvC sc2 cl C X.env) fp) := ⟨⟨h.n, h.nd, by
  show relS sc2 X.env.scope = relS sc2 sc
  rw [h.sc], fun x hx => hx, h.rm⟩, h.calm, h.room, fun e => nomatch e⟩
/-- a def of the module, and what it promises -/
def DFn (P : Program) (w : World) (K : PySem.W.Frag) (mg : Str → Option Value) (base : Heap) (x : Str) (ps : List Str) (k : Nat) (s : DSp) : Prop :=
  ∃ f fd, mg x = some (.ref f) ∧ PySem.W.keepIn K (.ref f) = true ∧ Binds K fd ps [] ∧ FnOk P w K mg base (L2N.CX P w) k f fd ps (toSp K mg ps.length s)
/-- THE RULE for a def -/
theorem fnok_of {P : Program} {w : World} {K : PySem.W.Frag} {mg : Str → Option Value} {base : Heap} {x qual : Str} {params : Arguments} {body : List Stmt} {scope : Scope} {dvs : List V} {kws : List (Str × V)} {f : Addr} {fd : FuncData} {N ps : List Str} {k : Nat} {s : DSp} {t : DTS}
    (F : FunD K x qual params body scope dvs kws f fd) (S : FnScope N ps scope)
    (hw : ∀ (cdv : Value) (A : Around) (outer : List PySem.Env) (s : Shared) (H : Hp) (E : XK), FX N scope none k (cxOf (L2N.CX P w) P w K mg base N qual scope f cdv A outer s H E) → PassesOwn (model P w) (cxOf (L2N.CX P w) P w K mg base N qual scope f cdv A outer s H E).A (cxOf (L2N.CX P w) P w K mg base N qual scope f cdv A outer s H E).env (cxOf (L2N.CX P w) P w K mg base N qual scope f cdv A outer s H E).xe → DSs (cxOf (L2N.CX P w) P w K mg base N qual scope f cdv A outer s H E) body t)
    (hp : ∀ ws k kx, ws.length = ps.length → s ws k kx → t (retE k) (fun x _ => kx x) (startE N ws)) :
    FnOk P w K mg base (L2N.CX P w) (k + 1) f fd ps (toSp K mg ps.length s) := by
  refine FunD.ok F S (fun vs H Q E h => h.1) fun cdv A outer s0 H vs Q E hr h => ?_
  obtain ⟨l, z, ws, k1, kx, e1, e2, e3, e4, aw, rw_, c, hs, hk, hx⟩ := h
  have px : PassesOwn (model P w) (cxOf (L2N.CX P w) P w K mg base N qual scope f cdv A outer s0 H E).A (cxOf (L2N.CX P w) P w K mg base N qual scope f cdv A outer s0 H E).env (cxOf (L2N.CX P w) P w K mg base N qual scope f cdv A outer s0 H E).xe := PassesOwn.leaving
  obtain ⟨ts, p, fm⟩ := hw cdv A outer s0 H E ⟨⟨rfl, S.nd, rfl, fun _ _ => rfl, L2H.roomH_of hr⟩, rfl, hr, fun _ => ⟨rfl, rfl⟩⟩ px _ (L2N.takes_of (X := cxOf (L2N.CX P w) P w K mg base N qual scope f cdv A outer s0 H E) (E := E) rfl rfl rfl rfl)
  refine ⟨ts, p, ?_⟩
  have lw : ws.length = ps.length := (repws_len rw_).symm.trans l
  refine fm z [] [] (startE N ws) _ H _ (retE k1) (fun x _ => kx x) ⟨e1, e2, e3.1, fun _ => e3.2, fun q => by rw [e3.2.2] at q; cases q⟩ rfl (rel_start rw_ c) (hp ws k1 kx lw hs) ⟨fun env σ H' r h => ?_, fun w env v σ H' r ⟨w0, h1, h2⟩ => ?_, fun _ _ _ _ h => h, fun _ _ _ _ h => h, fun x env cls d σ H' r h => hx x env σ cls d H' r h⟩
  · refine hk (.d .non) .non H' rfl ?_ h
    exact (Rel.out1 (w0 := .d .non) (Rel.pushNon r) rfl)
  · exact hk w0 v H' (peek_tree r h1) (Rel.out1 r h1) h2
/-- THE RULE for a call -/
def dCall (n : Nat) (s : DSp) (tr : DTA) : DTE := fun env k kx => tr env (fun ws e1 => ws.length = n ∧ argsD ws e1 fun ws' e2 => s ws' (fun w => nosto w = true ∧ k w (if clear w = true then e1 else e2)) fun x => kx x e2) kx
theorem passN {X : Cx} {W : WX} (tk : L2N.Takes X W) (σ : St) : PassesAt (L2N.CX X.prog X.w) X σ (WE W σ) := fun _ _ _ e s' I c => tk e s' (L2N.XE.of_call I (fun _ _ _ h => h) c)
section
variable {X : Cx} {x : Str} {e : Expr} {es : List Expr} {tr : DTA} {p pos : Pos} {N ps : List Str} {sc : Scope} {fs : Option Scope} {j k : Nat} {s : DSp}
theorem repws_args {z : Z} {G H : Hp} {σ : St} : ∀ {ws : List W} {vs : List V} {as : List Addr}, ws.all isArg = true → RepSt z G H σ ws vs as → as = [] ∧ ∀ H0, RepWs (z.inn G H0) G H0 ws vs []
  | [], _, _, _, ⟨q, q2⟩ => by subst q q2; exact ⟨rfl, fun _ => ⟨rfl, rfl⟩⟩
  | w :: ws, _, _, t, ⟨v, vs, a1, a2, q, q2, r, r2⟩ => by
    obtain ⟨t1, t2⟩ := band (show (isArg w && ws.all isArg) = true from t)
    obtain ⟨e2, h2⟩ := repws_args t2 r2
    subst q q2 e2
    have h1 : a1 = [] ∧ ∀ H0, RepW (z.inn G H0) G H0 w v [] := by
      cases w with
      | d x => exact ⟨r.1, fun H0 => ⟨rfl, Rep.like (z := z) (z' := z.inn G H0) ⟨rfl, rfl, fun _ h => h⟩ r.2⟩⟩
      | sto => obtain ⟨q, s, h, e⟩ := r; exact ⟨q, fun _ => ⟨rfl, s, h, e⟩⟩
      | exn _ _ => obtain ⟨q, s, h, e⟩ := r; exact ⟨q, fun _ => ⟨rfl, s, h, e⟩⟩
      | _ => cases t1
    obtain ⟨e1, h1⟩ := h1
    subst e1
    exact ⟨rfl, fun H0 => ⟨v, vs, [], [], rfl, rfl, h1 H0, h2 H0⟩⟩
/-- what a call does with its arguments at hand -/
theorem run_call {z : Z} {stk ws : List W} {vs us : List V} {env : Env} {σ : St} {H : Hp} {Q : VK} {kk : DK} {kx : XC} {Wx : WX} (hcm : X.calm = true) (okz : Okz X z) (r : Rel z (ws ++ stk) (us ++ vs) env σ H) (l : us.length = ws.length) (hl : ws.length = ps.length)
    (u : argsD ws env fun ws' e2 => s ws' (fun w => nosto w = true ∧ kk w (if clear w = true then env else e2)) fun x => kx x e2)
    (q : ∀ w env' v H', Rel z (w :: stk) (v :: vs) env' σ H' → kk w env' → Q v H') (qx : ∀ x env' cls d H', RelX z stk vs x cls d env' σ H' → kx x env' → Wx cls d σ H') : toSp X.K X.mg ps.length s us H Q (WE Wx σ) := by
  obtain ⟨ws', env', aw, lw, r1, hs⟩ := Rel.args r l u
  have r0 : Rel z stk vs env σ H := Rel.drop r l
  obtain ⟨G, rg⟩ := r1
  have c := RelG.core rg
  obtain ⟨as, bs, rs, re, nd, ow, _⟩ := id rg
  obtain ⟨v1, v2, a1, a2, e1, e2, q1, q2⟩ := rs.split
  obtain ⟨e3, e4⟩ := List.append_inj e1 (by rw [l, q1.len, lw])
  subst e3 e4 e2
  obtain ⟨e5, ha⟩ := repws_args aw q1
  subst e5
  have rd : RelG z G stk vs env' σ H := ⟨a2, bs, q2, re, nd, ow, c⟩
  refine ⟨by rw [l, hl], z.inn G H, ws', _, _, okz.k, okz.m, ⟨okz.op, okz.cold hcm⟩, rfl, aw, ha H, c.inn okz.op, hs, fun w v H' tw r' ⟨_, hk⟩ => ?_, fun x env0 σ0 cls d H' r' hk => qx x env' cls d H' (RelG.backX rd okz.op r') hk⟩
  by_cases hc : clear w = true
  · rw [if_pos hc] at hk
    exact q _ _ _ _ (Rel.back0 r0 okz.op r' tw hc) hk
  · rw [if_neg hc] at hk
    exact q _ _ _ _ (RelG.back1 rd okz.op r' tw) hk
theorem de_call (h : FX N sc fs k X) (F : DFn X.prog X.w X.K X.mg X.base x ps j s) (hj : j ≤ k) (hg : Gl X x) (hdb : (x == ("__debug__" : Str)) = false) (hp : Pls (e :: es)) (ha : DA X (e :: es) tr) : DE X (.Call (.Name x p) (e :: es) [] pos) (dCall ps.length s tr) := fun Wx tk => by
  obtain ⟨ta, pa, fa⟩ := ha Wx tk
  obtain ⟨f, fd, hm, hk, hb, F⟩ := F
  refine ⟨_, pe_callS F (h.room.mono hj) hg hm hk hb (passN tk) pa hdb (hp.hd.star _ _) hp.tl.any, fun z stk vs env σ H Q kk kx ok r t q qx => ?_⟩
  exact fa z stk vs env σ H _ _ kx ok r t (fun ws env' us H' l r1 ⟨hl, u⟩ => run_call h.calm ok r1 l hl u q qx) qx
theorem pe_callS0 {CX : CXT} {f : Addr} {fd : FuncData} {sp : Sp} {E : St → XK} (F : FnOk X.prog X.w X.K X.mg X.base CX k f fd [] sp) (hr : Room k X.A) (hg : Gl X x) (hm : X.mg x = some (.ref f)) (hk : PySem.W.keepIn X.K (.ref f) = true) (hb : Binds X.K fd [] []) (hx : ∀ σ, PassesAt CX X σ (E σ))
    (hdb : (x == ("__debug__" : Str)) = false) : PE X (.Call (.Name x p) [] [] pos) (tCallS sp E tNil) := by
  refine ⟨fun pins s σ H Q I h => ?_⟩
  refine wpAny_Call_Name_kw (ld_glob I hg hm ?_ hdb)
  exact PySem.W.callWith_K0 I.kIn hk (run_fnS F hr hb (hx σ) I .nil h)
def dCall0 (s : DSp) : DTE := fun env k kx => s [] (fun w => nosto w = true ∧ k w env) fun x => kx x env
theorem de_call0 (h : FX N sc fs k X) (F : DFn X.prog X.w X.K X.mg X.base x [] j s) (hj : j ≤ k) (hg : Gl X x) (hdb : (x == ("__debug__" : Str)) = false) : DE X (.Call (.Name x p) [] [] pos) (dCall0 s) := fun Wx tk => by
  obtain ⟨f, fd, hm, hk, hb, F⟩ := F
  refine ⟨_, pe_callS0 F (h.room.mono hj) hg hm hk hb (passN tk) hdb, fun z stk vs env σ H Q kk kx ok r t q qx => ?_⟩
  refine run_call (ws := []) (us := []) (ps := []) (kk := kk) h.calm ok r rfl rfl ?_ q qx
  show s [] (fun w => nosto w = true ∧ kk w (if clear w = true then env else env)) fun x => kx x env
  have e : (fun w => nosto w = true ∧ kk w (if clear w = true then env else env)) = fun w => nosto w = true ∧ kk w env := funext fun w => by rw [ite_self]
  rw [e]
  exact t
end
end DL

/-! DL15: stores into lists, f-strings, str.index. -/
namespace DL
open PySem PySem.Spec
open PyProof.Rows L2
section
variable {X : Cx} {o i e a b : Expr} {to ti ta tb te : DTE} {pos : Pos} {es : List Expr}
/-- l[i] = w, l a list that a slot owns -/
def setW (wo wi w : W) (env : Env) (k : Env → Prop) : Prop := match wo, peek env wi with
  | .at_ j, some (.d (.int n)) => match env[j]? with
    | some (some (.ol ws)) => match ixN ws.length n with
      | some m => k (env.set j (some (.ol (ws.set m w))))
      | none => False
    | some (some (.oL ws)) => match ixN ws.length n with
      | some m => k (env.set j (some (.oL (ws.set m w))))
      | none => False
    | _ => False
  | _, _ => False
def gSub (to ti : DTE) : DTG := fun w env k kx => to env (fun wo e1 => ti e1 (fun wi e2 => setW wo wi w e2 k) kx) kx
theorem dg_sub (ho : DE X o to) (hi : DE X i ti)
    (ha : ∀ v, assign (.Subscript o i pos) X.env v = (do
      let ov ← holding [v] (eval o X.env)
      let iv ← holding [v, ov] (eval i X.env)
      standAt pos
      holding [v, ov, iv] (setItem ov iv v)
      release [v, ov, iv] [])) : DG X (.Subscript o i pos) [] (gSub to ti) := fun Wx tk => by
  obtain ⟨t1, p1, f1⟩ := ho Wx tk
  obtain ⟨t2, p2, f2⟩ := hi Wx tk
  refine ⟨_, pg_sub p1 p2 set_list ha, fun z stk vs env σ H w v Q k kx ok na tw r t q qx => ?_⟩
  refine f1 z _ _ env σ H _ _ kx ok r t (fun wo e1 vo H1 r1 k1 => ?_) fun x env' cls d H' rx => qx x env' cls d σ H' rx.pop
  refine f2 z _ _ e1 σ H1 _ _ kx ok r1 k1 (fun wi e2 vi H2 r2 k2 => ?_) fun x env' cls d H' rx => qx x env' cls d σ H' rx.pop.pop
  unfold setW at k2
  split at k2
  · rename_i j n h1
    have ei := rd_int (r2.look h1)
    subst ei
    split at k2
    · rename_i ws hj
      split at k2
      · rename_i m hm
        have r3 := r2.pop
        obtain ⟨a, us, hs, ha, hl, _, r4⟩ := r3.pop.mut hj tw ok.op
        have ev := at_v r3 hs
        subst ev
        have lm : m < ws.length := (ixN_seq hm).2.1
        exact ⟨a, us, n, m, rfl, rfl, ha, by rw [hl]; exact hm, q _ _ _ (r4 m lm) Chg.refl k2⟩
      · exact k2.elim
    · rename_i ws hj
      split at k2
      · rename_i m hm
        have r3 := r2.pop
        obtain ⟨a, us, hs, ha, hl, r4⟩ := r3.pop.mutL hj tw ok.op
        have ev := at_v r3 hs
        subst ev
        have lm : m < ws.length := (ixN_seq hm).2.1
        exact ⟨a, us, n, m, rfl, rfl, ha, by rw [hl]; exact hm, q _ _ _ (r4 m lm) Chg.refl k2⟩
      · exact k2.elim
    · exact k2.elim
  · exact k2.elim
/-! f-strings -/
def kFmt (w : W) (env : Env) (k : DK) : Prop := match peek env w with
  | some (.d (.str s)) => s.length ≤ sizeLine ∧ k (.d (.str s)) env
  | some (.d (.int i)) => i.natAbs.log2 < 1920 ∧ k (.d (.str (showI i))) env
  | _ => False
def dFmt (te : DTE) : DTE := fun env k kx => te env (fun w e1 => kFmt w e1 k) kx
theorem de_fmt (he : DE X e te) : DE X (.FormattedValue e (-1) none pos) (dFmt te) := fun Wx tk => by
  obtain ⟨t1, p1, f1⟩ := he Wx tk
  refine ⟨_, pe_fmt p1, fun z stk vs env σ H Q k kx ok r t q qx => f1 z stk vs env σ H _ _ kx ok r t (fun w e1 v H1 r1 k1 => ?_) qx⟩
  unfold kFmt at k1
  split at k1
  · rename_i s h1
    have e1 := rd_str (r1.look h1)
    subst e1
    exact .inl ⟨_, rfl, by rw [str_len]; exact k1.1, q _ _ _ _ r1.pop.pushStr k1.2⟩
  · rename_i s h1
    have e1 := rd_int (r1.look h1)
    subst e1
    exact .inr ⟨_, rfl, k1.1, q _ _ _ _ (Rel.push (x := .str (showI s)) r1.pop fun _ _ _ _ => congrArg V.str (showI_str s)) k1.2⟩
  · exact k1.elim
def dJs : List DTE → List Nat → Env → DK → XC → Prop
  | [], acc, env, k, _ => k (.d (.str acc)) env
  | t :: ts, acc, env, k, kx => t env (fun w e1 => match peek e1 w with
    | some (.d (.str s)) => (acc ++ s).length ≤ sizeLine ∧ dJs ts (acc ++ s) e1 k kx
    | _ => False) kx
inductive DJ (X : Cx) : List Expr → List DTE → Prop where
  | nil : DJ X [] []
  | cons {e : Expr} {t : DTE} {es : List Expr} {ts : List DTE} (h : DE X e t) (r : DJ X es ts) : DJ X (e :: es) (t :: ts)
theorem dj_run {es : List Expr} {ts : List DTE} (h : DJ X es ts) {Wx : WX} (tk : L2N.Takes X Wx) : ∃ us, PJ X es us ∧ ∀ z stk vs env σ H (acc : List Nat) (Q : Str → Hp → Prop) (k : DK) (kx : XC), Okz X z → Rel z stk vs env σ H → dJs ts acc env k kx →
    (∀ s env' H', Rel z stk vs env' σ H' → k (.d (.str s)) env' → Q ⟨s.toArray⟩ H') → (∀ x env' cls d H', RelX z stk vs x cls d env' σ H' → kx x env' → Wx cls d σ H') → tJs us ⟨acc.toArray⟩ σ H Q := by
  induction h with
  | nil => exact ⟨_, .nil, fun z stk vs env σ H acc Q k kx ok r t q qx => q acc env H r t⟩
  | cons h _ ih =>
    obtain ⟨t1, p1, f1⟩ := h Wx tk
    obtain ⟨us, p2, f2⟩ := ih
    refine ⟨_, .cons p1 p2, fun z stk vs env σ H acc Q k kx ok r t q qx => f1 z stk vs env σ H _ _ kx ok r t (fun w e1 v H1 r1 k1 => ?_) qx⟩
    split at k1
    · rename_i s h1
      have e1 := rd_str (r1.look h1)
      subst e1
      refine ⟨_, rfl, ?_, ?_⟩
      · rw [str_app, str_len]; exact k1.1
      · rw [str_app]
        exact f2 z stk vs _ σ H1 (acc ++ s) Q k kx ok r1.pop k1.2 q qx
    · exact k1.elim
def dJoin (ts : List DTE) : DTE := fun env k kx => dJs ts [] env k kx
theorem de_joined {v1 v2 : Expr} {rest : List Expr} {ts : List DTE} (h : DJ X (v1 :: v2 :: rest) ts) : DE X (.JoinedStr (v1 :: v2 :: rest) pos) (dJoin ts) := fun Wx tk => by
  obtain ⟨us, p, f⟩ := dj_run h tk
  exact ⟨_, pe_joined p, fun z stk vs env σ H Q k kx ok r t q qx => f z stk vs env σ H [] _ k kx ok r t (fun s env' H' r' k' => q _ _ _ _ r'.pushStr k') qx⟩
theorem de_joined1 (h : DE X e te) : DE X (.JoinedStr [e] pos) te := fun Wx tk => let ⟨_, p, f⟩ := h Wx tk; ⟨_, pe_joined1 p, f⟩
/-! s.index(t), found -/
def mIndex : W → DCl := fun wo ws env k => match ws with
  | [w] => match pkS wo env, pkS w env with
    | some s, some t => match Builtin.Str.occurrences ⟨s.toArray⟩ ⟨t.toArray⟩ 0 s.length 1 with
      | i :: _ => k (.d (.int (i : Nat))) env
      | [] => False
    | _, _ => False
  | _ => False
theorem md_index : MtD X (fun x xs H Q => ∃ a b i rest, x = .str a ∧ xs = [.str b] ∧ Builtin.Str.occurrences a b 0 a.length 1 = i :: rest ∧ Q (.int (i : Nat)) H) mIndex := fun z stk vs env σ H Q k wo vo ws us ok r l u q => by
  unfold mIndex at u
  split at u
  · rename_i w
    cases us with
    | nil => cases l
    | cons v us =>
      cases us with
      | cons _ _ => cases l
      | nil =>
        split at u
        · rename_i s t h1 h2
          have e2 := pkS_v r h2
          have e1 := pkS_v (Rel.pop r) h1
          subst e1 e2
          split at u
          · rename_i j rest ho
            refine ⟨_, _, j, rest, rfl, rfl, ?_, q _ _ _ _ (Rel.pop (Rel.pop r)).pushInt u⟩
            rw [str_len]; exact ho
          · exact u.elim
        · exact u.elim
  · exact u.elim
end
end DL

/-! DL16: the rules by checks. -/
namespace DL
open PySem PySem.Spec
open PyProof.Rows L2
theorem pl_name {x : Str} {p} : Pl (.Name x p) := ⟨fun _ _ => rfl, fun _ => rfl, fun _ _ => rfl, fun _ _ => rfl⟩
theorem pl_con {x i p} : Pl (.Constant x i p) := ⟨fun _ _ => rfl, fun _ => rfl, fun _ _ => rfl, fun _ _ => rfl⟩
theorem pl_call {f a k p} : Pl (.Call f a k p) := ⟨fun _ _ => rfl, fun _ => rfl, fun _ _ => rfl, fun _ _ => rfl⟩
theorem pl_bin {a o b p} : Pl (.BinOp a o b p) := ⟨fun _ _ => rfl, fun _ => rfl, fun _ _ => rfl, fun _ _ => rfl⟩
theorem pl_un {o b p} : Pl (.UnaryOp o b p) := ⟨fun _ _ => rfl, fun _ => rfl, fun _ _ => rfl, fun _ _ => rfl⟩
theorem pl_bool {o b p} : Pl (.BoolOp o b p) := ⟨fun _ _ => rfl, fun _ => rfl, fun _ _ => rfl, fun _ _ => rfl⟩
theorem pl_cmp {a o b p} : Pl (.Compare a o b p) := ⟨fun _ _ => rfl, fun _ => rfl, fun _ _ => rfl, fun _ _ => rfl⟩
theorem pl_sub {a b p} : Pl (.Subscript a b p) := ⟨fun _ _ => rfl, fun _ => rfl, fun _ _ => rfl, fun _ _ => rfl⟩
theorem pl_att {a b p} : Pl (.Attribute a b p) := ⟨fun _ _ => rfl, fun _ => rfl, fun _ _ => rfl, fun _ _ => rfl⟩
theorem pl_lst {a p} : Pl (.List a p) := ⟨fun _ _ => rfl, fun _ => rfl, fun _ _ => rfl, fun _ _ => rfl⟩
theorem pl_tup {a k p} : Pl (.Tuple a k p) := ⟨fun _ _ => rfl, fun _ => rfl, fun _ _ => rfl, fun _ _ => rfl⟩
theorem pl_ite {a b c p} : Pl (.IfExp a b c p) := ⟨fun _ _ => rfl, fun _ => rfl, fun _ _ => rfl, fun _ _ => rfl⟩
theorem pl_lc {a b c p} : Pl (.ListComp a b c p) := ⟨fun _ _ => rfl, fun _ => rfl, fun _ _ => rfl, fun _ _ => rfl⟩
theorem pl_dict {a b p} : Pl (.Dict a b p) := ⟨fun _ _ => rfl, fun _ => rfl, fun _ _ => rfl, fun _ _ => rfl⟩
theorem pl_js {a p} : Pl (.JoinedStr a p) := ⟨fun _ _ => rfl, fun _ => rfl, fun _ _ => rfl, fun _ _ => rfl⟩
theorem pls_nil : Pls [] := fun _ h => nomatch h
theorem pls_cons {e : Expr} {es : List Expr} (h : Pl e) (r : Pls es) : Pls (e :: es) := fun x m => (List.mem_cons.mp m).elim (fun q => q ▸ h) (r x)
theorem tr_name {x : Str} {p} : Tr (.Name x p) := fun _ _ => rfl
theorem tr_con {x i p} : Tr (.Constant x i p) := fun _ _ => rfl
theorem tr_call {f a k p} : Tr (.Call f a k p) := fun _ _ => rfl
theorem tr_bin {a o b p} : Tr (.BinOp a o b p) := fun _ _ => rfl
theorem tr_sub {a b p} : Tr (.Subscript a b p) := fun _ _ => rfl
theorem tr_att {a b p} : Tr (.Attribute a b p) := fun _ _ => rfl
theorem tg_name {x : Str} {p} : TgPl (.Name x p) := fun _ _ => rfl
theorem tg_sub {a b p} : TgPl (.Subscript a b p) := fun _ _ => rfl
theorem tg_att {a b p} : TgPl (.Attribute a b p) := fun _ _ => rfl
theorem tg_tup {a k p} : TgPl (.Tuple a k p) := fun _ _ => rfl
theorem tgs_nil : TgPls [] := fun _ h => nomatch h
theorem tgs_cons {e : Expr} {es : List Expr} (h : TgPl e) (r : TgPls es) : TgPls (e :: es) := fun x m => (List.mem_cons.mp m).elim (fun q => q ▸ h) (r x)
/-! checks -/
def visB (sc : Scope) (x : Str) : Bool := match sc.names.lookup x with
  | some .local => true
  | some .cell => true
  | some .free => true
  | _ => false
def varC (N : List Str) (sc : Scope) (i : Nat) (x : Str) : Bool := (N[i]? == some x) && (visB sc x && (!(x == ("__debug__" : Str)) && !(x == ("__classdict__" : Str))))
def tgC (N : List Str) (sc : Scope) (fs : Option Scope) (i : Nat) (x : Str) : Bool := (N[i]? == some x) && ((sc.names.lookup x == some .local) || ((sc.names.lookup x == some .cell) && (fs.elim true fun s => s.names.lookup x == some .cell)))
def glC (sc : Scope) (x : Str) : Bool := (sc.names.lookup x == some .globalImplicit) && (!(x == ("__debug__" : Str)) && !(x == ("__name__" : Str)))
theorem visB_ok {sc : Scope} {x : Str} (h : visB sc x = true) : Vis sc x := by
  unfold visB at h
  split at h
  · rename_i e; exact .inl e
  · rename_i e; exact .inr (.inl e)
  · rename_i e; exact .inr (.inr e)
  · cases h
theorem bnot {b : Bool} (h : (!b) = true) : b = false := by cases b <;> first | rfl | cases h
section
variable {X : Cx} {N : List Str} {sc : Scope} {fs : Option Scope} {k : Nat} {e a b c o : Expr} {ta tb tc to : DTE} {tr : DTA} {es : List Expr} {pos p apos : Pos} {x : Str} {i : Nat}
theorem FB.var (h : FB N sc fs k X) (hc : varC N sc i x = true) : DE X (.Name x pos) (dVar i) := by
  obtain ⟨h1, h2⟩ := band hc
  obtain ⟨h2, h3⟩ := band h2
  obtain ⟨h3, h4⟩ := band h3
  exact de_var (by rw [h.n]; exact eq_of_beq h1) (by rw [h.sc]; exact visB_ok h2) (bnot h3) (bnot h4)
theorem FB.mov (h : FB N sc fs k X) (hc : varC N sc i x = true) : DE X (.Name x pos) (dMov i) := by
  obtain ⟨h1, h2⟩ := band hc
  obtain ⟨h2, h3⟩ := band h2
  obtain ⟨h3, h4⟩ := band h3
  exact de_mov (by rw [h.n]; exact eq_of_beq h1) (by rw [h.sc]; exact visB_ok h2) (bnot h3) (bnot h4)
theorem FB.tg (h : FB N sc fs k X) (hc : tgC N sc fs i x = true) : DG X (.Name x pos) [i] (gN i) := by
  obtain ⟨h1, h2⟩ := band hc
  have hN : X.N[i]? = some x := by rw [h.n]; exact eq_of_beq h1
  rcases Bool.or_eq_true_iff.mp h2 with h2 | h2
  · have e : X.env.scope.names.lookup x = some .local := by rw [h.sc]; exact eq_of_beq h2
    exact dg_name h.nd hN (.inl e) (.inr e)
  · obtain ⟨h2, h3⟩ := band h2
    have e : X.env.scope.names.lookup x = some .cell := by rw [h.sc]; exact eq_of_beq h2
    exact dg_name h.nd hN (.inr e) (.inl (h.fn x h3))
theorem FB.gl (h : FB N sc fs k X) (hc : glC sc x = true) : Gl X x ∧ (x == ("__debug__" : Str)) = false ∧ x ≠ "__name__" := by
  obtain ⟨h1, h2⟩ := band hc
  obtain ⟨h2, h3⟩ := band h2
  refine ⟨?_, bnot h2, fun e => ?_⟩
  · show X.env.scope.names.lookup x = some .globalImplicit
    rw [h.sc]; exact eq_of_beq h1
  · have := bnot h3
    rw [e] at this
    exact absurd this (by decide)
theorem FB.gstr (h : FB N sc fs k X) (hc : glC sc x = true) {s : Str} (hm : ∃ t, X.mg x = some (.str s t)) : DE X (.Name x pos) (dC (.str s.cps.toList)) := by
  obtain ⟨h1, h2, h3⟩ := h.gl hc
  obtain ⟨t, hm⟩ := hm
  refine de_glob (u := .str s t) (v := .str s) h1 hm ⟨t, rfl⟩ (fun z _ G => ?_) h2
  show V.str s = V.str ⟨s.cps.toList.toArray⟩
  cases s; rfl
theorem FB.gint (h : FB N sc fs k X) (hc : glC sc x = true) {s : Int} (hm : ∃ t, X.mg x = some (.int s t)) : DE X (.Name x pos) (dC (.int s)) := by
  obtain ⟨h1, h2, h3⟩ := h.gl hc
  obtain ⟨t, hm⟩ := hm
  exact de_glob (u := .int s t) (v := .int s) h1 hm ⟨t, rfl⟩ (fun z _ G => rfl) h2
theorem FB.ty {n : String} (h : FB N sc fs k X) (hc : glC sc x = true) (hm : X.mg x = none) (hv : bootBuiltins x = some (.type n)) : DE X (.Name x pos) (dC (.ty n)) := by
  obtain ⟨h1, h2, h3⟩ := h.gl hc
  exact de_bltn h1 hm hv h3 h2
/-! operations -/
theorem FB.cmp (h : FB N sc fs k X) (op : CmpOp) (hb' : Pl b) (ha : DE X a ta) (hb : DE X b tb) : DE X (.Compare a [op] [b] pos) (dOp (sCmp op) ta tb) := de_cmp h.un op (hb'.mark op) ha hb
theorem FB.tcmp (h : FB N sc fs k X) (op : CmpOp) (hb' : Pl b) (ha : DE X a ta) (hb : DE X b tb) : DT X (.Compare a [op] [b] pos) (dBl (dOp (sCmp op) ta tb)) := dt_cmp h.un op (hb'.mark op) ha hb
theorem pl_last {op op' : CmpOp} (h : Pl c) : lastMarks [op, op'] [b, c] = false := h.mark op'
theorem FB.chn (h : FB N sc fs k X) (op op' : CmpOp) (hb' : Pl c) (ha : DE X a ta) (hb : DE X b tb) (hc : DE X c tc) : DE X (.Compare a [op, op'] [b, c] pos) (dChn op op' ta tb tc) := de_chn h.un op op' (pl_last hb') ha hb hc
theorem FB.tchn (h : FB N sc fs k X) (op op' : CmpOp) (hb' : Pl c) (ha : DE X a ta) (hb : DE X b tb) (hc : DE X c tc) : DT X (.Compare a [op, op'] [b, c] pos) (dBl (dChn op op' ta tb tc)) := dt_chn h.un op op' (pl_last hb') ha hb hc
/-! built-in functions -/
section
variable {r : List V → Hp → VK → Prop} {s : DCl} {id T : String}
theorem FB.bl (h : FB N sc fs k X) (hc : glC sc x = true) (hm : X.mg x = none) (hv : bootBuiltins x = some (.builtin id)) (hr : CallR X (.builtin id) r) (hd : CallD X r s) (hp : Pls (e :: es)) (ha : DA X (e :: es) tr) : DE X (.Call (.Name x p) (e :: es) [] pos) (dCl s tr) := by
  obtain ⟨h1, h2, h3⟩ := h.gl hc
  exact de_callB hr hd h1 hm hv h3 h2 hp ha
theorem FB.bt (h : FB N sc fs k X) (hc : glC sc x = true) (hm : X.mg x = none) (hv : bootBuiltins x = some (.type T)) (hr : CallR X (.type T) r) (hd : CallD X r s) (hp : Pls (e :: es)) (ha : DA X (e :: es) tr) : DE X (.Call (.Name x p) (e :: es) [] pos) (dCl s tr) := by
  obtain ⟨h1, h2, h3⟩ := h.gl hc
  exact de_callT hr hd h1 hm hv h3 h2 hp ha
end
theorem b_len : bootBuiltins "len" = some (.builtin "len") := by decide +kernel
theorem b_int : bootBuiltins "int" = some (.type "int") := by decide +kernel
theorem b_str : bootBuiltins "str" = some (.type "str") := by decide +kernel
theorem b_list : bootBuiltins "list" = some (.type "list") := by decide +kernel
theorem b_tuple : bootBuiltins "tuple" = some (.type "tuple") := by decide +kernel
theorem b_bool : bootBuiltins "bool" = some (.type "bool") := by decide +kernel
theorem b_dict : bootBuiltins "dict" = some (.type "dict") := by decide +kernel
theorem b_repr : bootBuiltins "repr" = some (.builtin "repr") := by decide +kernel
theorem b_abs : bootBuiltins "abs" = some (.builtin "abs") := by decide +kernel
theorem b_max : bootBuiltins "max" = some (.builtin "max") := by decide +kernel
theorem b_min : bootBuiltins "min" = some (.builtin "min") := by decide +kernel
theorem b_sum : bootBuiltins "sum" = some (.builtin "sum") := by decide +kernel
theorem b_all : bootBuiltins "all" = some (.builtin "all") := by decide +kernel
theorem b_any : bootBuiltins "any" = some (.builtin "any") := by decide +kernel
theorem b_isi : bootBuiltins "isinstance" = some (.builtin "isinstance") := by decide +kernel
theorem FB.len (h : FB N sc fs k X) (hc : glC sc "len" = true) (hm : X.mg "len" = none) (hp : Pls (e :: es)) (ha : DA X (e :: es) tr) : DE X (.Call (.Name "len" p) (e :: es) [] pos) (dCl (s1 kLenN) tr) := h.bl hc hm b_len call_len cd_len hp ha
theorem FB.int (h : FB N sc fs k X) (hc : glC sc "int" = true) (hm : X.mg "int" = none) (hp : Pls (e :: es)) (ha : DA X (e :: es) tr) : DE X (.Call (.Name "int" p) (e :: es) [] pos) (dCl (s1 kInt) tr) := h.bt hc hm b_int call_intA cd_int hp ha
theorem FB.str (h : FB N sc fs k X) (hc : glC sc "str" = true) (hm : X.mg "str" = none) (hp : Pls (e :: es)) (ha : DA X (e :: es) tr) : DE X (.Call (.Name "str" p) (e :: es) [] pos) (dCl (s1 kStr) tr) := h.bt hc hm b_str call_strA cd_str hp ha
theorem FB.repr (h : FB N sc fs k X) (hc : glC sc "repr" = true) (hm : X.mg "repr" = none) (hp : Pls (e :: es)) (ha : DA X (e :: es) tr) : DE X (.Call (.Name "repr" p) (e :: es) [] pos) (dCl (s1 kRepr) tr) := h.bl hc hm b_repr call_reprA cd_repr hp ha
theorem FB.abs (h : FB N sc fs k X) (hc : glC sc "abs" = true) (hm : X.mg "abs" = none) (hp : Pls (e :: es)) (ha : DA X (e :: es) tr) : DE X (.Call (.Name "abs" p) (e :: es) [] pos) (dCl (s1 kAbs) tr) := h.bl hc hm b_abs call_abs cd_abs hp ha
theorem FX.max2 (h : FX N sc fs k X) (hc : glC sc "max" = true) (hm : X.mg "max" = none) (hp : Pls (e :: es)) (ha : DA X (e :: es) tr) : DE X (.Call (.Name "max" p) (e :: es) [] pos) (dCl (s2 (kI2 fun i j => if j > i then j else i)) tr) := h.bl hc hm b_max (call_max2 h.calm) cd_i2 hp ha
theorem FX.min2 (h : FX N sc fs k X) (hc : glC sc "min" = true) (hm : X.mg "min" = none) (hp : Pls (e :: es)) (ha : DA X (e :: es) tr) : DE X (.Call (.Name "min" p) (e :: es) [] pos) (dCl (s2 (kI2 fun i j => if j < i then j else i)) tr) := h.bl hc hm b_min (call_min2 h.calm) cd_i2 hp ha
theorem FB.list (h : FB N sc fs k X) (hc : glC sc "list" = true) (hm : X.mg "list" = none) (hp : Pls (e :: es)) (ha : DA X (e :: es) tr) : DE X (.Call (.Name "list" p) (e :: es) [] pos) (dCl (s1 kListOf) tr) := h.bt hc hm b_list call_list_of cd_list hp ha
theorem FB.tuple (h : FB N sc fs k X) (hc : glC sc "tuple" = true) (hm : X.mg "tuple" = none) (hp : Pls (e :: es)) (ha : DA X (e :: es) tr) : DE X (.Call (.Name "tuple" p) (e :: es) [] pos) (dCl (s1 kTupOf) tr) := h.bt hc hm b_tuple call_tuple_of cd_tuple hp ha
theorem FX.sum (h : FX N sc fs k X) (hc : glC sc "sum" = true) (hm : X.mg "sum" = none) (hp : Pls (e :: es)) (ha : DA X (e :: es) tr) : DE X (.Call (.Name "sum" p) (e :: es) [] pos) (dCl (s1 (kInts fun ns q => q (.int ns.sum))) tr) := h.bl hc hm b_sum (cr_sum h.calm) cd_sum hp ha
theorem FX.max1 (h : FX N sc fs k X) (hc : glC sc "max" = true) (hm : X.mg "max" = none) (hp : Pls (e :: es)) (ha : DA X (e :: es) tr) : DE X (.Call (.Name "max" p) (e :: es) [] pos) (dCl (s1 (kInts fun ns q => ns ≠ [] ∧ ∀ m, m ∈ ns → (∀ y ∈ ns, y ≤ m) → q (.int m))) tr) := h.bl hc hm b_max (cr_max h.calm) cd_max1 hp ha
theorem FX.min1 (h : FX N sc fs k X) (hc : glC sc "min" = true) (hm : X.mg "min" = none) (hp : Pls (e :: es)) (ha : DA X (e :: es) tr) : DE X (.Call (.Name "min" p) (e :: es) [] pos) (dCl (s1 (kInts fun ns q => ns ≠ [] ∧ ∀ m, m ∈ ns → (∀ y ∈ ns, m ≤ y) → q (.int m))) tr) := h.bl hc hm b_min (cr_min h.calm) cd_min1 hp ha
theorem FX.all (h : FX N sc fs k X) (hc : glC sc "all" = true) (hm : X.mg "all" = none) (hp : Pls (e :: es)) (ha : DA X (e :: es) tr) : DE X (.Call (.Name "all" p) (e :: es) [] pos) (dCl (s1 (kBls fun bs => bs.all id)) tr) := h.bl hc hm b_all (cr_all h.calm) cd_bls hp ha
theorem FX.any (h : FX N sc fs k X) (hc : glC sc "any" = true) (hm : X.mg "any" = none) (hp : Pls (e :: es)) (ha : DA X (e :: es) tr) : DE X (.Call (.Name "any" p) (e :: es) [] pos) (dCl (s1 (kBls fun bs => bs.any id)) tr) := h.bl hc hm b_any (cr_any h.calm) cd_bls hp ha
theorem FB.isi (h : FB N sc fs k X) (hc : glC sc "isinstance" = true) (hm : X.mg "isinstance" = none) (hp : Pls (e :: es)) (ha : DA X (e :: es) tr) : DE X (.Call (.Name "isinstance" p) (e :: es) [] pos) (dCl (s2 kIsi) tr) := h.bl hc hm b_isi call_isi cd_isi hp ha
/-! own defs -/
theorem FX.call {ps : List Str} {j : Nat} {s : DSp} (h : FX N sc fs k X) (F : DFn X.prog X.w X.K X.mg X.base x ps j s) (hj : Nat.ble j k = true) (hc : glC sc x = true) (hp : Pls (e :: es)) (ha : DA X (e :: es) tr) : DE X (.Call (.Name x p) (e :: es) [] pos) (dCall ps.length s tr) := by
  obtain ⟨h1, h2, h3⟩ := h.gl hc
  exact de_call h F (Nat.le_of_ble_eq_true hj) h1 h2 hp ha
theorem FX.call0 {j : Nat} {s : DSp} (h : FX N sc fs k X) (F : DFn X.prog X.w X.K X.mg X.base x [] j s) (hj : Nat.ble j k = true) (hc : glC sc x = true) : DE X (.Call (.Name x p) [] [] pos) (dCall0 s) := by
  obtain ⟨h1, h2, h3⟩ := h.gl hc
  exact de_call0 h F (Nat.le_of_ble_eq_true hj) h1 h2
/-! methods -/
def bmC (apos pos : Pos) (es : List Expr) : Bool := (apos.endLine == pos.line) && decide (es.length < 20)
section
variable {r : V → List V → Hp → VK → Prop} {s : W → DCl} {id T : String} {name : Str}
theorem FB.bm (h : FB N sc fs k X) (pa : PlainAttrs T) (slot : Slot T name id) (hty : typeOf (.builtin id) = pure (.type "method_descriptor")) (hm : MtR X id r) (hd : MtD X r s) (hbase : attributeBase o name X.env (eval o X.env) = eval o X.env) (hc : bmC apos pos es = true) (hp : Pls (e :: es)) (ho : DE X o to) (ha : DA X (e :: es) tr) :
    DE X (.Call (.Attribute o name apos) (e :: es) [] pos) (dBm T s to tr) := by
  obtain ⟨h1, h2⟩ := band hc
  exact de_bm pa slot hty hm hd hbase h1 (of_decide_eq_true h2) hp ho ha
theorem FB.bm0 (h : FB N sc fs k X) (pa : PlainAttrs T) (slot : Slot T name id) (hty : typeOf (.builtin id) = pure (.type "method_descriptor")) (hm : MtR X id r) (hd : MtD X r s) (hbase : attributeBase o name X.env (eval o X.env) = eval o X.env) (hc : bmC apos pos [] = true) (ho : DE X o to) :
    DE X (.Call (.Attribute o name apos) [] [] pos) (dBm T s to dNil) := by
  obtain ⟨h1, h2⟩ := band hc
  exact de_bm0 pa slot hty hm hd hbase h1 ho
end
/-- what no 'super()' is -/
def Ab (o : Expr) : Prop := ∀ name env, attributeBase o name env (eval o env) = eval o env
theorem ab_name {x : Str} {p} : Ab (.Name x p) := fun _ _ => rfl
theorem ab_con {x i p} : Ab (.Constant x i p) := fun _ _ => rfl
theorem ab_sub {a b p} : Ab (.Subscript a b p) := fun _ _ => rfl
theorem ab_att {a b p} : Ab (.Attribute a b p) := fun _ _ => rfl
theorem ab_bin {a o b p} : Ab (.BinOp a o b p) := fun _ _ => rfl
theorem FB.app (h : FB N sc fs k X) (hb : Ab o) (hc : bmC apos pos es = true) (hp : Pls (e :: es)) (ho : DE X o to) (ha : DA X (e :: es) tr) : DE X (.Call (.Attribute o "append" apos) (e :: es) [] pos) (dBm "list" mApp to tr) := h.bm F.plainAttrs_list F.slot_list_append F.type_list_append mt_append md_app (hb _ _) hc hp ho ha
theorem FB.ext (h : FB N sc fs k X) (hb : Ab o) (hc : bmC apos pos es = true) (hp : Pls (e :: es)) (ho : DE X o to) (ha : DA X (e :: es) tr) : DE X (.Call (.Attribute o "extend" apos) (e :: es) [] pos) (dBm "list" mExt to tr) := h.bm F.plainAttrs_list F.slot_list_extend F.type_list_extend mt_extend md_ext (hb _ _) hc hp ho ha
theorem FB.pop (h : FB N sc fs k X) (hb : Ab o) (hc : bmC apos pos [] = true) (ho : DE X o to) : DE X (.Call (.Attribute o "pop" apos) [] [] pos) (dBm "list" mPop to dNil) := h.bm0 F.plainAttrs_list F.slot_list_pop F.type_list_pop mt_pop md_pop (hb _ _) hc ho
theorem FB.join (h : FB N sc fs k X) (hb : Ab o) (hc : bmC apos pos es = true) (hp : Pls (e :: es)) (ho : DE X o to) (ha : DA X (e :: es) tr) : DE X (.Call (.Attribute o "join" apos) (e :: es) [] pos) (dBm "str" mJoin to tr) := h.bm F.plainAttrs_str F.slot_str_join F.type_str_join mt_join md_join (hb _ _) hc hp ho ha
theorem FB.split (h : FB N sc fs k X) (hb : Ab o) (hc : bmC apos pos es = true) (hp : Pls (e :: es)) (ho : DE X o to) (ha : DA X (e :: es) tr) : DE X (.Call (.Attribute o "split" apos) (e :: es) [] pos) (dBm "str" mSplit to tr) := h.bm F.plainAttrs_str F.slot_str_split F.type_str_split mt_split md_split (hb _ _) hc hp ho ha
theorem FB.index (h : FB N sc fs k X) (hb : Ab o) (hc : bmC apos pos es = true) (hp : Pls (e :: es)) (ho : DE X o to) (ha : DA X (e :: es) tr) : DE X (.Call (.Attribute o "index" apos) (e :: es) [] pos) (dBm "str" mIndex to tr) := h.bm F.plainAttrs_str F.slot_str_index F.type_str_index mt_sindex md_index (hb _ _) hc hp ho ha
/-! iterations -/
theorem FB.rng1 {tg : Expr} (h : FB N sc fs k X) (hc : glC sc "range" = true) (hm : X.mg "range" = none) (hp : Pl a) (ha : DE X a ta) : DI X tg (.Call (.Name "range" p) [a] [] pos) (dRng1 ta) := di_rng1 (h.gl hc).1 hm hp ha
theorem FB.rng2 {tg : Expr} (h : FB N sc fs k X) (hc : glC sc "range" = true) (hm : X.mg "range" = none) (hp : Pl a) (hp2 : Pl b) (ha : DE X a ta) (hb : DE X b tb) : DI X tg (.Call (.Name "range" p) [a, b] [] pos) (dRng2 ta tb) := di_rng2 (h.gl hc).1 hm hp hp2 ha hb
/-! statements -/
theorem FB.asg {tg : Expr} {g : DTG} {sl : List Nat} (h1 : swapsWithSole [tg] e pos.line X.env = pure false) (h2 : swappedStores [tg] e X.env = pure none) (h3 : TgPl tg) (he : DE X e ta) (hg : DG X tg sl g) : DS X (.Assign [tg] e pos) (dAsg ta g) := ds_asg h1 h2 h3 he hg
theorem FX.for_ {tg iter : Expr} {body : List Stmt} {ti : DTI} {g : DTG} {tb : DTS} {sl : List Nat} (h : FX N sc fs k X) (hp : PassesOwn (model X.prog X.w) X.A X.env X.xe) (hf : Pl iter) (hi : DI X tg iter ti) (hg : DG X tg sl g) (hb : DSs X body tb) : DS X (.For tg iter body [] pos) (dFor ti g tb) := ds_for hp h.calm (fun x => hf.fold _ x) hi hg hb
/-- comprehensions -/
def subB (sl : List Nat) (own : List (Str × Nat)) : Bool := sl.all fun i => (own.map (·.2)).contains i
theorem subB_ok {sl : List Nat} {own : List (Str × Nat)} (h : subB sl own = true) : ∀ i ∈ sl, i ∈ own.map (·.2) := fun i m => by
  have := List.all_eq_true.mp h i m
  simpa using this
theorem FX.comp {elt tg iter : Expr} {ifs : List Expr} {scope : Scope} {own : List (Str × Nat)} {ti : DTI} {g : DTG} {tt : DTT} {te : DTE} {sl : List Nat} (h : FX N sc fs k X) (ok : blkC N sc scope own = true) (hsl : subB sl own = true) (hf : Pl iter) (hi : DI X tg iter ti)
    (hb : ∀ Y, FX N (relS scope sc) (some scope) k Y → Y.prog = X.prog → Y.w = X.w → Y.K = X.K → Y.mg = X.mg → Y.base = X.base → DG Y tg sl g ∧ DTs Y ifs tt ∧ DE Y elt te) :
    DE X (.ListComp elt [⟨tg, iter, ifs, 0⟩] scope pos) (dComp (own.map (·.2)) ti g tt te) :=
  de_comp h.calm h.nd (by rw [h.n, h.sc]; exact blkOk_by ok) (subB_ok hsl) hi (fun s H C cl fp => (hb _ (h.blk s H C cl fp) rfl rfl rfl rfl rfl).1) (fun s H C cl fp => (hb _ (h.blk s H C cl fp) rfl rfl rfl rfl rfl).2.1) (fun s H C cl fp => (hb _ (h.blk s H C cl fp) rfl rfl rfl rfl rfl).2.2) fun x => hf.fold _ x
def swC (sc : Scope) (y : Str) (py pos : Pos) (scope : Scope) : Bool := (if sc.kind.isAnnotationScope then ScopeKind.function else sc.kind) == .function && sc.names.lookup y == some .local && py.line == pos.line && !(scope.names.any fun (n, k) => n == y && (k == .local || k == .cell))
theorem FX.asgC {y : Str} {py spos : Pos} {elt tg iter : Expr} {ifs : List Expr} {scope : Scope} {own : List (Str × Nat)} {ti : DTI} {g : DTG} {tt : DTT} {te : DTE} {sl : List Nat} (h : FX N sc fs k X) (hy : tgC N sc fs i y = true) (hyl : (sc.names.lookup y == some .local) = true)
    (hsw : swC sc y py pos scope = true) (ok : blkC N sc scope own = true) (hsl : subB sl own = true) (hf : Pl iter) (hi : DI X tg iter ti)
    (hb : ∀ Y, FX N (relS scope sc) (some scope) k Y → Y.prog = X.prog → Y.w = X.w → Y.K = X.K → Y.mg = X.mg → Y.base = X.base → DG Y tg sl g ∧ DTs Y ifs tt ∧ DE Y elt te) :
    DS X (.Assign [.Name y py] (.ListComp elt [⟨tg, iter, ifs, 0⟩] scope pos) spos) (dAsg (dComp (own.map (·.2)) ti g tt te) (gN i)) := by
  have sw : swapsWith (.ListComp elt [⟨tg, iter, ifs, 0⟩] scope pos) (some (.Name y py)) spos.line X.env = pure true := by
    show (pure ((if X.env.scope.kind.isAnnotationScope then ScopeKind.function else X.env.scope.kind) == .function && X.env.scope.names.lookup y == some .local && py.line == pos.line && !(scope.names.any fun (n, k) => n == y && (k == .local || k == .cell))) : Sem Bool) = pure true
    rw [h.sc]
    exact congrArg pure hsw
  exact ds_asgC h.calm h.nd (by rw [h.n]; exact eq_of_beq (band hy).1) (by rw [h.sc]; exact eq_of_beq hyl) sw (by rw [h.n, h.sc]; exact blkOk_by ok) (subB_ok hsl) hi (fun s H C cl fp => (hb _ (h.blk s H C cl fp) rfl rfl rfl rfl rfl).1) (fun s H C cl fp => (hb _ (h.blk s H C cl fp) rfl rfl rfl rfl rfl).2.1) (fun s H C cl fp => (hb _ (h.blk s H C cl fp) rfl rfl rfl rfl rfl).2.2) (fun x => hf.fold _ x) (h.tg hy)
theorem DFn.on {Y : Cx} {ps : List Str} {s : DSp} (F : DFn X.prog X.w X.K X.mg X.base x ps k s) (h1 : Y.prog = X.prog) (h2 : Y.w = X.w) (h3 : Y.K = X.K) (h4 : Y.mg = X.mg) (h5 : Y.base = X.base) : DFn Y.prog Y.w Y.K Y.mg Y.base x ps k s := by
  rw [h1, h2, h3, h4, h5]; exact F
end
end DL

/-! DL17: the store: taking from it; a law that makes one. -/
namespace DL
open PySem PySem.Spec
open PyProof.Rows L2
def goodS (ws : List W) : Prop := ∃ (xs : List D) (p g f r c : Int), ws = [.d (.cel xs), .d (.int p), .d (.int g), .d (.int f), .d (.int r), .d (.int c)] ∧ (∀ x ∈ xs, cellOk x) ∧ 0 ≤ p ∧ 0 ≤ g ∧ 0 ≤ r ∧ r < 2147483647
def S_take : DSp := fun ws k _ => ∃ m : Int, ws = [.sto, .d (.int m)] ∧ 1 ≤ m ∧ m < 1073741824 ∧ ∀ i : Int, 0 ≤ i → i < m → k (.d (.int i))
def takeE (m : Int) : DEnds := { nx := fun _ => False, rt := fun w e => ∃ i ws, peek e w = some (.d (.int i)) ∧ 0 ≤ i ∧ i < m ∧ e[0]? = some (some (.oL ws)) ∧ goodS ws }
section
variable {P : Program} {w : World} {K : PySem.W.Frag} {mg : Str → Option Value} {base : Heap} {x qual : Str} {params : Arguments} {body : List Stmt} {scope : Scope} {dvs : List V} {kws : List (Str × V)} {f : Addr} {fd : FuncData} {N : List Str} {k : Nat} {t : DTS}
/-- what a def's walk gives, at every place -/
def Walk (P : Program) (w : World) (K : PySem.W.Frag) (mg : Str → Option Value) (base : Heap) (N : List Str) (scope : Scope) (k : Nat) (body : List Stmt) (t : DTS) : Prop :=
  ∀ X : Cx, X.prog = P → X.w = w → X.K = K → X.mg = mg → X.base = base → FX N scope none k X → PassesOwn (model X.prog X.w) X.A X.env X.xe → DSs X body t
theorem fnok {qual : Str} {ps : List Str} {s : DSp} (F : FunD K x qual params body scope dvs kws f fd) (S : FnScope N ps scope) (hw : Walk P w K mg base N scope k body t) (hp : ∀ ws k kx, ws.length = ps.length → s ws k kx → t (retE k) (fun x _ => kx x) (startE N ws)) :
    FnOk P w K mg base (L2N.CX P w) (k + 1) f fd ps (toSp K mg ps.length s) := fnok_of F S (fun cdv A outer s H E h ho => hw _ rfl rfl rfl rfl rfl h ho) hp
theorem fnok_take (F : FunD K x qual params body scope dvs kws f fd) (S : FnScope N ["store", "many"] scope) (hw : Walk P w K mg base N scope k body t)
    (hp : ∀ m ws, 1 ≤ m → m < 1073741824 → goodS ws → t (takeE m) (fun _ _ => False) (startE N [.oL ws, .d (.int m)])) : FnOk P w K mg base (L2N.CX P w) (k + 1) f fd ["store", "many"] (toSp K mg 2 S_take) := by
  refine FunD.ok F S (fun vs H Q E h => h.1) fun cdv A outer s0 H vs Q E hr h => ?_
  obtain ⟨l, z, ws, k1, kx, e1, e2, e3, e4, aw, rw_, c, ⟨m, ew, m1, m2, hs⟩, hk, hx⟩ := h
  subst ew
  have px : PassesOwn (model P w) (cxOf (L2N.CX P w) P w K mg base N qual scope f cdv A outer s0 H E).A (cxOf (L2N.CX P w) P w K mg base N qual scope f cdv A outer s0 H E).env (cxOf (L2N.CX P w) P w K mg base N qual scope f cdv A outer s0 H E).xe := PassesOwn.leaving
  obtain ⟨ts, p, fm⟩ := hw (cxOf (L2N.CX P w) P w K mg base N qual scope f cdv A outer s0 H E) rfl rfl rfl rfl rfl ⟨⟨rfl, S.nd, rfl, fun _ _ => rfl, L2H.roomH_of hr⟩, rfl, hr, fun _ => ⟨rfl, rfl⟩⟩ px _ (L2N.takes_of (X := cxOf (L2N.CX P w) P w K mg base N qual scope f cdv A outer s0 H E) (E := E) rfl rfl rfl rfl)
  refine ⟨ts, p, ?_⟩
  obtain ⟨v1, vs1, b1, b2, ev, eb, ⟨q1, s, zs, es⟩, v2, vs2, b3, b4, ev2, eb2, ⟨q3, q4⟩, q5, q6⟩ := rw_
  subst ev ev2 es q5
  obtain ⟨pp, g, ff, r, cc, u, xs, h1, h2, h3, h4, h5⟩ := c.sto e3.1 s zs
  have q4 : v2 = .int m := q4
  subst q4
  let z' : Z := { z with s := none, ex := none, pin := some s, H0 := fun b => if b = s then none else H b }
  have lk : z.like z' := ⟨rfl, rfl, fun _ h => h⟩
  have kl : z'.like z := ⟨rfl, rfl, fun _ h => h⟩
  have sG : z.G0 s = none := (c.sH s zs).1
  have hr0 : RepW z' z.G0 H (.oL [.d (.cel xs), .d (.int pp), .d (.int g), .d (.int ff), .d (.int r), .d (.int cc)]) (.ref s) [s] := by
    refine ⟨s, _, [], rfl, rfl, rfl, h2, u, _, [], [], rfl, rfl, ⟨rfl, Rep.like lk h4⟩, .int pp, _, [], [], rfl, rfl, ⟨rfl, rfl⟩, .int g, _, [], [], rfl, rfl, ⟨rfl, rfl⟩, .int ff, _, [], [], rfl, rfl, ⟨rfl, rfl⟩, .int r, _, [], [], rfl, rfl, ⟨rfl, rfl⟩, .int cc, _, [], [], rfl, rfl, ⟨rfl, rfl⟩, rfl, rfl⟩
  have c0 : Core z' z.G0 H := by
    refine ⟨Same.refl _, c.gh, fun b o e _ => ?_, fun b h => .inl h, fun s h => (by cases h), fun i h => (by cases h), fun _ s h => (by cases h)⟩
    have e : (if b = s then none else H b) = some o := e
    by_cases hb : b = s
    · rw [if_pos hb] at e; cases e
    · rw [if_neg hb] at e; exact e
  have rel0 : Rel z' [] [] (startE N [.oL [.d (.cel xs), .d (.int pp), .d (.int g), .d (.int ff), .d (.int r), .d (.int cc)], .d (.int m)]) (start N [.ref s, .int m]) H := by
    refine ⟨z.G0, [], [s], ⟨rfl, rfl⟩, ?_, by simp, fun a ma => ?_, c0⟩
    · exact repe_start (ws := [.oL _, .d (.int m)]) (vs := [.ref s, .int m]) ⟨.ref s, _, [s], [], rfl, rfl, hr0, .int m, [], [], [], rfl, rfl, ⟨rfl, rfl⟩, rfl, rfl⟩
    · have ea : a = s := by simpa using ma
      subst ea
      exact ⟨sG, .inl (if_pos rfl)⟩
  refine fm z' [] [] _ _ H _ (takeE m) (fun _ _ => False) ⟨e1, e2, e3.1, fun _ => ⟨rfl, e3.2.2⟩, fun q => by rw [show z'.lx = z.lx from rfl, e3.2.2] at q; cases q⟩ rfl rel0 (hp m _ m1 m2 ⟨xs, pp, g, ff, r, cc, rfl, h5, h3⟩) ⟨fun _ _ _ _ h => h.elim, fun w1 env v σ H' rl hh => ?_, fun _ _ _ _ h => h, fun _ _ _ _ h => h, fun _ _ _ _ _ _ _ h => h.elim⟩
  obtain ⟨i, ws2, pk, i0, im, e0, xs2, p2, g2, f2, r2, c2, ews, good, b2⟩ := hh
  subst ews
  have ev : v = .int i := rd_int (rl.look pk)
  subst ev
  obtain ⟨G', as, bs, _, re, _, _, c'⟩ := rl
  obtain ⟨v0, d1, d2, d3, _, _, rr, _⟩ := re.at_ e0
  obtain ⟨a, us, as', pn, _, _, ha, rws⟩ := rr
  have ea : s = a := Option.some.inj pn
  subst ea
  obtain ⟨u1, us1, _, _, eu1, _, ⟨_, y1, _⟩, u2, us2, _, _, eu2, _, ⟨_, y2⟩, u3, us3, _, _, eu3, _, ⟨_, y3⟩, u4, us4, _, _, eu4, _, ⟨_, y4⟩, u5, us5, _, _, eu5, _, ⟨_, y5⟩, u6, us6, _, _, eu6, _, ⟨_, y6⟩, eu7, _⟩ := rws
  have eu : u1 = u := by
    have y1 : z.sv = some u1 := y1
    rw [h1] at y1; exact (Option.some.inj y1).symm
  have y2 : u2 = .int p2 := y2
  have y3 : u3 = .int g2 := y3
  have y4 : u4 = .int f2 := y4
  have y5 : u5 = .int r2 := y5
  have y6 : u6 = .int c2 := y6
  subst eu eu7 eu6 eu5 eu4 eu3 eu2 eu1 y2 y3 y4 y5 y6
  have keep : ∀ b o, H b = some o → b ≠ s → H' b = some o := fun b o e n => c'.keep b o (show (if b = s then none else H b) = some o by rw [if_neg n]; exact e) (fun q => nomatch q)
  have nG : ∀ {b o}, z.G0 b = some o → b ≠ s := fun {b o} e q => by rw [q, sG] at e; cases e
  refine hk (.d (.int i)) (.int i) H' rfl ⟨z.G0, [], [], ⟨.int i, [], [], [], rfl, rfl, ⟨rfl, rfl⟩, rfl, rfl⟩, ⟨rfl, rfl⟩, List.nodup_nil, fun a m => by simp at m, ?_⟩ (hs i i0 im)
  refine ⟨Same.refl _, fun b o e => keep b o (c.gh b o e) (nG e), fun b o e n => keep b o (e4 ▸ e) fun q => n (by rw [q]; exact zs), fun b h => .inl h, c.sH, fun j hj dx hd => ?_, fun _ s' hs' => ?_⟩
  · obtain ⟨us, k1, k2⟩ := c.xd j hj dx hd
    exact ⟨us, keep dx _ k1 fun q => (by rw [q, h2] at k1; cases k1), k2⟩
  · have es : s = s' := by
      have hs' : z.s = some s' := hs'
      rw [zs] at hs'; exact Option.some.inj hs'
    subst es
    exact ⟨p2, g2, f2, r2, c2, _, xs, h1, ha, b2, h4, h5⟩
/-! a law: its first line makes the store -/
def S_store : DSp := fun ws k _ => ∃ ns : List Int, ws = [.d (.klst (ns.map .int))] ∧ ns.length ≤ 63 ∧ ∀ cs r, (∀ x ∈ cs, cellOk x) → 0 ≤ r → r < 2147483647 → k (.ol [.d (.lst cs), .d (.int 0), .d (.int 0), .d (.int 0), .d (.int r), .d (.int 0)])
def spLaw (K : PySem.W.Frag) : Sp := fun vs H Q _ => ∃ (a : Addr) (ns : List Int), vs = [.ref a] ∧ ns.length ≤ 63 ∧ SqL K H a (ns.map V.int) ∧ ∀ H', Q (.bl true) H'
def trueE : DEnds := { nx := fun _ => False, rt := fun w e => peek e w = some (.d (.bl true)) }
theorem ints_reps {z : Z} {G : Hp} : ∀ {ns : List Int}, Reps z G (ns.map .int) (ns.map V.int)
  | [] => rfl
  | i :: ns => ⟨.int i, _, rfl, rfl, ints_reps⟩
theorem fnok_law {rest : List Stmt} {st : Stmt} {N' : List Str} (eN : N = ("script" : Str) :: ("store" : Str) :: N') (F : FunD K x qual params (st :: rest) scope dvs kws f fd) (S : FnScope N ["script"] scope) (h0 : ∀ X : Cx, X.prog = P → X.w = w → X.K = K → X.mg = mg → X.base = base → FX N scope none k X → DS X st (dAsg (dCall 1 S_store (dCons (dVar 0) dNil)) (gN 1)))
    (hw : Walk P w K mg base N scope k rest t) (hp : ∀ ns : List Int, ns.length ≤ 63 → t trueE (fun _ _ => False) ((startE N [.d (.klst (ns.map .int))]).set 1 (some .sto))) : FnOk P w K mg base (L2N.CX P w) (k + 1) f fd ["script"] (spLaw K) := by
  refine FunD.ok F S (fun vs H Q E ⟨a, ns, e, _⟩ => by rw [e]; rfl) fun cdv A outer s0 H vs Q E hr h => ?_
  obtain ⟨a, ns, ev, ln, sq, hq⟩ := h
  subst ev
  have px : PassesOwn (model P w) (cxOf (L2N.CX P w) P w K mg base N qual scope f cdv A outer s0 H E).A (cxOf (L2N.CX P w) P w K mg base N qual scope f cdv A outer s0 H E).env (cxOf (L2N.CX P w) P w K mg base N qual scope f cdv A outer s0 H E).xe := PassesOwn.leaving
  have fx : FX N scope none k (cxOf (L2N.CX P w) P w K mg base N qual scope f cdv A outer s0 H E) := ⟨⟨rfl, S.nd, rfl, fun _ _ => rfl, L2H.roomH_of hr⟩, rfl, hr, fun _ => ⟨rfl, rfl⟩⟩
  have tk := L2N.takes_of (X := cxOf (L2N.CX P w) P w K mg base N qual scope f cdv A outer s0 H E) (E := E) rfl rfl rfl rfl
  obtain ⟨t1, p1, f1⟩ := h0 _ rfl rfl rfl rfl rfl fx _ tk
  obtain ⟨t2, p2, f2⟩ := hw _ rfl rfl rfl rfl rfl fx px _ tk
  refine ⟨_, pss_cons p1 p2, ?_⟩
  let z : Z := { K := K, mg := mg, H0 := H, G0 := H, s := none }
  have c0 : Core z H H := ⟨Same.refl _, Same.refl _, fun b o e _ => e, fun b h => .inl h, fun s h => (by cases h), fun i h => (by cases h), fun _ s h => (by cases h)⟩
  have rw0 : RepWs z z.G0 H [.d (.klst (ns.map .int))] [.ref a] [] := ⟨.ref a, [], [], [], rfl, rfl, ⟨rfl, a, _, rfl, sq, ints_reps⟩, rfl, rfl⟩
  have rel0 := rel_start (N := N) rw0 c0
  refine f1 z [] [] _ _ H _ { nx := fun e => ∃ cs r, (∀ x ∈ cs, cellOk x) ∧ 0 ≤ r ∧ r < 2147483647 ∧ e = (startE N [.d (.klst (ns.map .int))]).set 1 (some (.ol [.d (.lst cs), .d (.int 0), .d (.int 0), .d (.int 0), .d (.int r), .d (.int 0)])), rt := fun _ _ => False } (fun _ _ => False) ⟨rfl, rfl, rfl, fun _ => ⟨rfl, rfl⟩, fun q => (by cases q)⟩ rfl rel0 ?_ ⟨fun env σ H' rl hn => ?_, fun _ _ _ _ _ _ h => h.elim, fun _ _ _ _ h => h, fun _ _ _ _ h => h, fun _ _ _ _ _ _ _ h => h.elim⟩
  · subst eN
    refine ⟨rfl, ns, rfl, ln, fun cs r hc r0 r1 => ⟨rfl, ?_⟩⟩
    show useW _ _ _
    rw [if_neg (fun h => nomatch h)]
    exact ⟨rfl, Nat.succ_lt_succ (Nat.succ_pos _), cs, r, hc, r0, r1, rfl⟩
  · obtain ⟨cs, r, hc, r0, r1, ee⟩ := hn
    subst ee
    obtain ⟨G, as, bs, ⟨_, q0⟩, re, nd, ow, c⟩ := rl
    subst q0
    subst eN
    have nones : ∀ {n : Nat} {σ : St} {as : List Addr}, RepE z G H' (List.replicate n none) σ as → as = [] ∧ RepE { K := K, mg := mg, H0 := H', G0 := G, s := none } G H' (List.replicate n none) σ [] := by
      intro n
      induction n with
      | zero => intro σ as h; exact ⟨h.2, h.1, rfl⟩
      | succ n ih => intro σ as h; obtain ⟨o, σ', e, h⟩ := h; obtain ⟨e2, h2⟩ := ih h; exact ⟨e2, o, σ', e, h2⟩
    obtain ⟨v0, σ1, a1, a2, eσ, ebs, ⟨q0, r00⟩, v, σ2, bi, a4, eσ2, ebs2, rr, rest⟩ := re
    obtain ⟨e4, rest⟩ := nones rest
    subst e4 ebs2 ebs q0 eσ2 eσ
    obtain ⟨s, us, as', ev, ebi, hs, rws⟩ := rr
    obtain ⟨u1, us1, x1, y1, eu1, ea1, ⟨q1, y1'⟩, u2, us2, x2, y2, eu2, ea2, ⟨q2, y2'⟩, u3, us3, x3, y3, eu3, ea3, ⟨q3, y3'⟩, u4, us4, x4, y4, eu4, ea4, ⟨q4, y4'⟩, u5, us5, x5, y5, eu5, ea5, ⟨q5, y5'⟩, u6, us6, x6, y6, eu6, ea6, ⟨q6, y6'⟩, eu7, ea7⟩ := rws
    have y2' : u2 = .int 0 := y2'
    have y3' : u3 = .int 0 := y3'
    have y4' : u4 = .int 0 := y4'
    have y5' : u5 = .int r := y5'
    have y6' : u6 = .int 0 := y6'
    subst ev eu7 eu6 eu5 eu4 eu3 eu2 eu1 y2' y3' y4' y5' y6' q1 q2 q3 q4 q5 q6 ea7 ea6 ea5 ea4 ea3 ea2 ea1 ebi
    obtain ⟨gs, os⟩ := ow s (by simp)
    let z2 : Z := { K := K, mg := mg, H0 := H', G0 := G, s := some s, sv := some u1 }
    have lk : z.like z2 := ⟨rfl, rfl, fun v h => (by cases h)⟩
    have sb : z.sub z2 := ⟨fun v h => (by cases h), fun v h => (by cases h), fun v h => (by cases h), fun h => (by cases h)⟩
    have c2 : Core z2 G H' := by
      refine ⟨Same.refl _, c.gh, fun b o e _ => e, fun b h => .inl h, fun s' h => ?_, fun i h => (by cases h), fun _ s' h => ?_⟩
      · cases h
        exact ⟨gs, by show H' s ≠ none; rw [hs]; exact fun q => nomatch q⟩
      · cases h
        exact ⟨0, 0, 0, r, 0, u1, cs, rfl, hs, ⟨by decide, by decide, r0, r1⟩, ⟨rfl, (y1'.like lk)⟩, hc⟩
    have re2 : RepE z2 G H' ((startE (("script" : Str) :: ("store" : Str) :: N') [.d (.klst (ns.map .int))]).set 1 (some .sto)) (some v0 :: some (.ref s) :: σ2) [] :=
      ⟨v0, _, [], [], rfl, rfl, ⟨rfl, Rep.like lk r00⟩, .ref s, _, [], [], rfl, rfl, ⟨rfl, s, rfl, rfl⟩, RepE.move lk sb (Same.refl _) rest fun _ m => by simp at m⟩
    refine f2 z2 [] [] _ _ H' _ trueE (fun _ _ => False) ⟨rfl, rfl, rfl, fun _ => ⟨rfl, rfl⟩, fun q => (by cases q)⟩ rfl ⟨G, [], [], ⟨rfl, rfl⟩, re2, List.nodup_nil, fun a m => by simp at m, c2⟩ (hp ns ln) ⟨fun _ _ _ _ h => h.elim, fun w2 env2 v2 σ3 H3 rl hh => ?_, fun _ _ _ _ h => h, fun _ _ _ _ h => h, fun _ _ _ _ _ _ _ h => h.elim⟩
    have ev : v2 = .bl true := rd_bl (rl.look hh)
    subst ev
    exact hq H3
end
end DL

/-! DL18: plain laws of the readings: loops, comprehensions, rows. -/
namespace DL
open PySem
def compStep (vs : List Nat) (g : DTG) (tt : DTT) (te : DTE) (w : W) (acc : List W) (env : Env) (K : List W → Env → Prop) : Prop := g w env (fun e1 => tt e1 (fun b e2 => if b = true then te e2 (fun y e3 => useW y e3 fun y' e4 => acc.length < sizeLine ∧ K (acc ++ [y']) (wipeE e4 vs)) kf else K acc (wipeE e2 vs)) kf) kf
theorem compL_ind {vs : List Nat} {g : DTG} {tt : DTT} {te : DTE} (Iv : List W → List W → Env → Prop) (hs : ∀ w r acc env K, Iv (w :: r) acc env → (∀ acc' e', Iv r acc' e' → K acc' e') → compStep vs g tt te w acc env K) :
    ∀ {items acc env k}, Iv items acc env → (∀ acc e, Iv [] acc e → k acc e) → compL vs g tt te items acc env k
  | [], _, _, _, h, q => q _ _ h
  | w :: r, acc, env, k, h, q => hs w r acc env (fun acc' e' => compL vs g tt te r acc' e' k) h fun acc' e' h' => compL_ind Iv hs h' q
/-- every item gives one value, the slots stand -/
theorem compL_map {vs : List Nat} {g : DTG} {tt : DTT} {te : DTE} {env : Env} (P : W → W → Prop) (hs : ∀ w acc K, (∀ y, P w y → K (acc ++ [y]) env) → acc.length < sizeLine → compStep vs g tt te w acc env K) :
    ∀ {items acc k}, acc.length + items.length ≤ sizeLine → (∀ ys : List W, ys.length = items.length → (∀ (i : Nat) (w y : W), items[i]? = some w → ys[i]? = some y → P w y) → k (acc ++ ys) env) → compL vs g tt te items acc env k
  | [], acc, k, _, q => by
    have := q [] rfl (fun i w y h => by simp at h)
    rwa [List.append_nil] at this
  | w :: r, acc, k, hl, q => hs w acc (fun acc' e' => compL vs g tt te r acc' e' k) (fun y hy => by
      refine compL_map P hs (by simp only [List.length_append, List.length_cons, List.length_nil] at hl ⊢; omega) fun ys ly hp => ?_
      have := q (y :: ys) (by simp [ly]) fun i w' y' h1 h2 => by
        cases i with
        | zero => simp at h1 h2; subst h1 h2; exact hy
        | succ i => exact hp i w' y' (by simpa using h1) (by simpa using h2)
      rwa [List.append_assoc]) (by simp only [List.length_cons] at hl; omega)
theorem compL_fun {vs : List Nat} {g : DTG} {tt : DTT} {te : DTE} {env : Env} (f : W → W) : ∀ {items acc k}, (∀ w ∈ items, ∀ acc K, K (acc ++ [f w]) env → acc.length < sizeLine → compStep vs g tt te w acc env K) → acc.length + items.length ≤ sizeLine → k (acc ++ items.map f) env → compL vs g tt te items acc env k
  | [], acc, k, _, _, q => by rwa [List.map_nil, List.append_nil] at q
  | w :: r, acc, k, hs, hl, q => hs w List.mem_cons_self acc (fun acc' e' => compL vs g tt te r acc' e' k) (by
      refine compL_fun f (fun w' m => hs w' (List.mem_cons_of_mem _ m)) (by simp only [List.length_append, List.length_cons, List.length_nil] at hl ⊢; omega) ?_
      rwa [List.append_assoc]) (by simp only [List.length_cons] at hl; omega)
theorem compL_any {vs : List Nat} {g : DTG} {tt : DTT} {te : DTE} {env : Env} (P : W → Prop) : ∀ {items acc k}, (∀ w ∈ items, ∀ acc K, (∀ y, P y → K (acc ++ [y]) env) → acc.length < sizeLine → compStep vs g tt te w acc env K) → acc.length + items.length ≤ sizeLine → (∀ ys : List W, ys.length = items.length → (∀ y ∈ ys, P y) → k (acc ++ ys) env) → compL vs g tt te items acc env k
  | [], acc, k, _, _, q => by
    have := q [] rfl (fun y h => nomatch h)
    rwa [List.append_nil] at this
  | w :: r, acc, k, hs, hl, q => hs w List.mem_cons_self acc (fun acc' e' => compL vs g tt te r acc' e' k) (fun y hy => by
      refine compL_any P (fun w' m => hs w' (List.mem_cons_of_mem _ m)) (by simp only [List.length_append, List.length_cons, List.length_nil] at hl ⊢; omega) fun ys ly hp => ?_
      have := q (y :: ys) (by simp [ly]) fun y' m => (List.mem_cons.mp m).elim (fun e => e ▸ hy) (hp y')
      rwa [List.append_assoc]) (by simp only [List.length_cons] at hl; omega)
theorem forL_ind {g : DTG} {body : DTS} {kx : XC} {E : DEnds} (Iv : List W → Env → Prop) (hs : ∀ w r env K, Iv (w :: r) env → (∀ e', Iv r e' → K e') → g w env (fun e1 => body { E with nx := K, ct := K, bk := E.nx } kx e1) kx) :
    ∀ {items env}, Iv items env → (∀ e, Iv [] e → E.nx e) → forL g body kx items E env
  | [], _, h, q => q _ h
  | w :: r, env, h, q => hs w r env (fun e' => forL g body kx r E e') h fun e' h' => forL_ind Iv hs h' q
theorem ite_i {c A B : Prop} {d : Decidable c} (ha : c → A) (hb : ¬ c → B) : @ite Prop c d A B := by
  by_cases h : c
  · rw [if_pos h]; exact ha h
  · rw [if_neg h]; exact hb h
theorem dsOf_map2 {α : Type} {f : α → D} {xs : List α} : dsOf (xs.map fun x => W.d (f x)) = some (xs.map f) := by
  have := dsOf_map (xs := xs.map f)
  rwa [List.map_map] at this
theorem blsOf_map2 {α : Type} {p : α → Bool} : ∀ {xs : List α}, blsOf (xs.map fun x => D.bl (p x)) = some (xs.map p)
  | [] => rfl
  | x :: xs => by show (blsOf _).map (p x :: ·) = _; rw [blsOf_map2]; rfl
theorem flat_map {α : Type} {f : α → D} {xs : List α} : flat (.ol (xs.map fun x => W.d (f x))) = some (.l, xs.map f) := by
  show (dsOf _).map (fun xs => (SeqK.l, xs)) = _
  rw [dsOf_map2]; rfl
theorem rowD_map {α : Type} {f : α → D} {xs : List α} {env : Env} {k : SeqK → List D → Env → Prop} (h : k .l (xs.map f) env) : rowD (.ol (xs.map fun x => W.d (f x))) env k := by
  unfold rowD
  rw [show (peek env (.ol (xs.map fun x => W.d (f x)))).bind flat = some (.l, xs.map f) from flat_map]
  exact h
theorem kBls_map {α : Type} {p : α → Bool} {xs : List α} {f : List Bool → Bool} {env : Env} {k : DK} (h : k (.d (.bl (f (xs.map p)))) env) : kBls f (.ol (xs.map fun x => W.d (.bl (p x)))) env k := by
  refine rowD_map ?_
  show match SeqK.l, blsOf (xs.map fun x => D.bl (p x)) with | .t, _ => False | _, some ns => k (.d (.bl (f ns))) env | _, none => False
  rw [blsOf_map2]
  exact h
theorem fzs_map {α : Type} {f : α → D} : ∀ {xs : List α}, fzs (xs.map fun x => W.d (f x)) = xs.map f
  | [] => rfl
  | x :: xs => by show fz _ :: fzs _ = _; rw [fzs_map]; rfl
theorem nostos_map {α : Type} {f : α → D} : ∀ {xs : List α}, nostos (xs.map fun x => W.d (f x)) = true
  | [] => rfl
  | x :: xs => by show (true && nostos _) = true; rw [nostos_map]; rfl
theorem clears_map {α : Type} {f : α → D} : ∀ {xs : List α}, (∀ x ∈ xs, flatL (f x) = true) → clears (xs.map fun x => W.d (f x)) = true
  | [], _ => rfl
  | x :: xs, h => by
    show (flatL (f x) && clears _) = true
    rw [h x List.mem_cons_self, clears_map fun y m => h y (List.mem_cons_of_mem _ m)]; rfl
theorem nostos_d {xs : List D} : nostos (xs.map W.d) = true := nostos_map (f := id)
theorem fzs_d {xs : List D} : fzs (xs.map W.d) = xs := by
  have := fzs_map (f := id) (xs := xs)
  rwa [List.map_id] at this
mutual
theorem eqv_refl : ∀ {n : Nat} {x : D}, okq n x = true → eqv x x = true
  | _, .non, _ => rfl
  | _, .bl b, _ => by simp [eqv]
  | _, .int i, _ => by simp [eqv]
  | _, .str s, _ => by simp [eqv]
  | n + 1, .lst xs, h => by simp only [eqv]; exact eqvs_refl (by simpa [okq] using h)
  | n + 1, .klst xs, h => by simp only [eqv]; exact eqvs_refl (by simpa [okq] using h)
  | n + 1, .tup xs, h => by simp only [eqv]; exact eqvs_refl (by simpa [okq] using h)
  | 0, .lst _, h => by simp [okq] at h
  | 0, .klst _, h => by simp [okq] at h
  | 0, .tup _, h => by simp [okq] at h
  | _, .ty _, h => by simp [okq] at h
  | _, .glo _, h => by simp [okq] at h
  | _, .ins _ _, h => by simp [okq] at h
  | _, .dct _, h => by simp [okq] at h
  | _, .cel _, h => by simp [okq] at h
theorem eqvs_refl : ∀ {n : Nat} {x : List D}, okqs n x = true → eqvs x x = true
  | _, [], _ => rfl
  | n, x :: xs, h => by
    simp only [okqs, Bool.and_eq_true] at h
    simp only [eqvs, eqv_refl h.1, eqvs_refl h.2, Bool.and_self]
end
theorem rangeW_len {lo : Int} {n : Nat} : (rangeW lo n).length = n := by unfold rangeW; rw [List.length_map, List.length_range]
end DL

/-! DL19: joining. -/
namespace DL
open PySem PySem.Spec
open PyProof.Rows L2
section
variable {P : Program} {w : World} {K : PySem.W.Frag} {mg : Str → Option Value} {base : Heap} {X : Cx} {x : Str} {ps : List Str} {k : Nat} {s : DSp} {f : Addr} {fd : FuncData}
theorem DFn.here (F : DFn P w K mg base x ps k s) (e1 : X.prog = P) (e2 : X.w = w) (e3 : X.K = K) (e4 : X.mg = mg) (e5 : X.base = base) : DFn X.prog X.w X.K X.mg X.base x ps k s := by
  subst e1 e2 e3 e4 e5; exact F
theorem none_here (e4 : X.mg = mg) (h : mg x = none) : X.mg x = none := by rw [e4]; exact h
theorem str_here {z : Str} (e4 : X.mg = mg) (h : ∃ t, mg x = some (.str z t)) : ∃ t, X.mg x = some (.str z t) := by rw [e4]; exact h
theorem int_here {z : Int} (e4 : X.mg = mg) (h : ∃ t, mg x = some (.int z t)) : ∃ t, X.mg x = some (.int z t) := by rw [e4]; exact h
/-- no error is let out -/
theorem FnOk.quiet {sp : Sp} (F : FnOk P w K mg base (L2N.CX P w) k f fd ps sp) (h : ∀ vs H Q E, sp vs H Q E → sp vs H Q fun _ _ _ => False) : FnOk P w K mg base (fun _ _ _ _ _ _ => False) k f fd ps sp :=
  ⟨F.len, fun A outer s H args us vs Q E hr e0 hb hv hs => codeAny_mono (F.run A outer s H args us vs Q (fun _ _ _ => False) hr e0 hb hv (h _ _ _ _ hs)) fun r s' q => by
    cases r with
    | ok fl => cases fl <;> exact q
    | error e =>
      obtain ⟨_, _, _, _, _, _, _, _, _, _, _, _, z⟩ := q
      exact z⟩
end
end DL

/-! DL20: errors raised and caught. -/
namespace DL
open PySem PySem.Spec
open PyProof.Rows L2
/-- a class of errors, made without arguments -/
def Er0 (K : PySem.W.Frag) (mg : Str → Option Value) (c : String) : Prop := ∃ C, mg (Str.ofString c) = some (.ref C) ∧ ErF K mg c C ∧ PySem.W.excIn K C He.veBase "ValueError.__new__" = true
section
variable {X : Cx} {C : Addr} {x : Str} {p pos : Pos} {N : List Str} {sc : Scope} {fs : Option Scope} {k : Nat}
/-- X() -/
theorem pmk_z {B newId initId : String} {bmB : List Value} (F : ExcBaseFacts B newId initId bmB) (q : PySem.W.excIn X.K C bmB newId = true) (gC : X.mg x = some (.ref C)) (kC : PySem.W.keepIn X.K (.ref C) = true) (r : Raises X (.ref C)) (hg : Gl X x) (hdb : (x == ("__debug__" : Str)) = false) :
    L2N.PMk X (.Call (.Name x p) [] [] pos) (fun _ H Q => Q (.ref C) none H) := by
  intro pins s σ H Q I h
  refine wpAny_Call_Name_kw (ld_glob I hg gC ?_ hdb)
  refine PySem.W.callWith_K0 I.kIn kC ?_
  obtain ⟨bm, N, nm, qn, bs, hdct, sn, sub, ab, col, dd, k0, k1, k2, k3, k5, mN, hC, hN, hni, T⟩ := exc_obj I.kIn q
  exact wpAny_call_exc_subT F T hC hN hni (fun h' e hm => L2N.mk_of I hm r h (I.hok.gone hm.new)) (Nat.zero_le _)
def dRaise0 (c : String) : DTS := fun _ kx env => kx ⟨c, []⟩ env
theorem RelX.of {z : Z} {stk : List W} {vs : List V} {env : Env} {σ : St} {H : Hp} {c : String} {C : Addr} (rl : Rel z stk vs env σ H) (m : z.mg (Str.ofString c) = some (.ref C)) (e : ErF z.K z.mg c C) : RelX z stk vs ⟨c, []⟩ (.ref C) none env σ H := by
  obtain ⟨G, rl⟩ := rl
  exact ⟨G, C, rl, ⟨m, e⟩, rfl, rfl⟩
theorem FX.raise0 {c : String} (h : FX N sc fs k X) (e : Er0 X.K X.mg c) (hc : glC sc (Str.ofString c) = true) {rp : Pos} :
    DS X (.Raise (some (.Call (.Name (Str.ofString c) p) [] [] pos)) none rp) (dRaise0 c) := fun Wx tk => by
  obtain ⟨C, gC, er, q⟩ := e
  obtain ⟨hg, hdb, _⟩ := h.gl hc
  refine ⟨_, L2N.ps_raise h.calm tk (pmk_z PySem.F.excBase_ValueError q gC er.kp (raises_own er.hsub er.ty) hg hdb), fun z stk vs env σ H D E kx ok na rl h q => ?_⟩
  exact q.x ⟨c, []⟩ env (.ref C) none σ H (RelX.of rl (ok.m ▸ gC) (ok.k ▸ ok.m ▸ er)) h
end
/-! no caught error within -/
mutual
def nox : W → Bool
  | .d _ => true
  | .ol ws => noxs ws
  | .ot ws => noxs ws
  | .oi _ fs => noxf fs
  | .od kvs => noxk kvs
  | .sto => true
  | .exn _ _ => false
  | .at_ _ => true
  | .hole => true
  | .oL ws => noxs ws
def noxs : List W → Bool
  | [] => true
  | w :: ws => nox w && noxs ws
def noxf : List (String × W) → Bool
  | [] => true
  | (_, w) :: ws => nox w && noxf ws
def noxk : List (Key × W) → Bool
  | [] => true
  | (_, w) :: ws => nox w && noxk ws
end
mutual
theorem nosto_nox : ∀ {w : W}, nosto w = true → nox w = true
  | .d _, _ => rfl
  | .ol _, h => nostos_nox h
  | .ot _, h => nostos_nox h
  | .oi _ _, h => nostof_nox h
  | .od _, h => nostok_nox h
theorem nostos_nox : ∀ {w : List W}, nostos w = true → noxs w = true
  | [], _ => rfl
  | _ :: _, h => Bool.and_eq_true_iff.mpr ⟨nosto_nox (band h).1, nostos_nox (band h).2⟩
theorem nostof_nox : ∀ {w : List (String × W)}, nostof w = true → noxf w = true
  | [], _ => rfl
  | (_, _) :: _, h => Bool.and_eq_true_iff.mpr ⟨nosto_nox (band h).1, nostof_nox (band h).2⟩
theorem nostok_nox : ∀ {w : List (Key × W)}, nostok w = true → noxk w = true
  | [], _ => rfl
  | (_, _) :: _, h => Bool.and_eq_true_iff.mpr ⟨nosto_nox (band h).1, nostok_nox (band h).2⟩
end
section
variable {z z' : Z} {G H : Hp} {σ : St}
mutual
/-- where no error is at hand, no value is one -/
theorem RepW.nox (l : z.lx = false) : ∀ {w : W} {v : V} {as : List Addr}, RepW z G H w v as → DL.nox w = true
  | .d _, _, _, _ => rfl
  | .ol _, _, _, ⟨_, _, _, _, _, _, r⟩ => RepWs.nox l r
  | .ot _, _, _, ⟨_, _, _, _, _, _, r⟩ => RepWs.nox l r
  | .oi _ _, _, _, ⟨_, _, _, _, _, _, _, _, _, _, r⟩ => RepWf.nox l r
  | .od _, _, _, ⟨_, _, _, _, _, _, r⟩ => RepWk.nox l r
  | .sto, _, _, _ => rfl
  | .exn _ _, _, _, ⟨_, _, _, _, _, _, q⟩ => by rw [l] at q; cases q
  | .oL _, _, _, ⟨_, _, _, _, _, _, _, r⟩ => RepWs.nox l r
theorem RepWs.nox (l : z.lx = false) : ∀ {w : List W} {v : List V} {as : List Addr}, RepWs z G H w v as → DL.noxs w = true
  | [], _, _, _ => rfl
  | _ :: _, _, _, ⟨_, _, _, _, _, _, r, r2⟩ => Bool.and_eq_true_iff.mpr ⟨RepW.nox l r, RepWs.nox l r2⟩
theorem RepWf.nox (l : z.lx = false) : ∀ {w : List (String × W)} {v : List (Str × V)} {as : List Addr}, RepWf z G H w v as → DL.noxf w = true
  | [], _, _, _ => rfl
  | (_, _) :: _, _, _, ⟨_, _, _, _, _, _, r, r2⟩ => Bool.and_eq_true_iff.mpr ⟨RepW.nox l r, RepWf.nox l r2⟩
theorem RepWk.nox (l : z.lx = false) : ∀ {w : List (Key × W)} {v : List (Key × V)} {as : List Addr}, RepWk z G H w v as → DL.noxk w = true
  | [], _, _, _ => rfl
  | (_, _) :: _, _, _, ⟨_, _, _, _, _, _, r, r2⟩ => Bool.and_eq_true_iff.mpr ⟨RepW.nox l r, RepWk.nox l r2⟩
end
/-- the same but for the error at hand -/
structure Z.but (z z' : Z) : Prop where
  lk : z.like z'
  s : z.s = z'.s
  pin : z.pin = z'.pin
mutual
theorem RepW.but (e : z.but z') : ∀ {w : W} {v : V} {as : List Addr}, DL.nox w = true → RepW z G H w v as → RepW z' G H w v as
  | .d _, _, _, _, ⟨q, r⟩ => ⟨q, r.like e.lk⟩
  | .ol _, _, _, n, ⟨a, vs, as', q, q2, h, r⟩ => ⟨a, vs, as', q, q2, h, RepWs.but e n r⟩
  | .ot _, _, _, n, ⟨a, vs, as', q, q2, h, r⟩ => ⟨a, vs, as', q, q2, h, RepWs.but e n r⟩
  | .oi _ _, _, _, n, ⟨a, C, dx, vs, as', q, q2, m, h, h2, r⟩ => ⟨a, C, dx, vs, as', q, q2, by rw [← e.lk.m]; exact m, h, h2, RepWf.but e n r⟩
  | .od _, _, _, n, ⟨a, vs, as', q, q2, h, r⟩ => ⟨a, vs, as', q, q2, h, RepWk.but e n r⟩
  | .sto, _, _, _, ⟨q, s, h, r⟩ => ⟨q, s, by rw [← e.s]; exact h, r⟩
  | .oL _, _, _, n, ⟨a, vs, as', pn, q, q2, h, r⟩ => ⟨a, vs, as', by rw [← e.pin]; exact pn, q, q2, h, RepWs.but e n r⟩
theorem RepWs.but (e : z.but z') : ∀ {w : List W} {v : List V} {as : List Addr}, DL.noxs w = true → RepWs z G H w v as → RepWs z' G H w v as
  | [], _, _, _, r => r
  | _ :: _, _, _, n, ⟨v, vs, a1, a2, q, q2, r, r2⟩ => ⟨v, vs, a1, a2, q, q2, RepW.but e (band n).1 r, RepWs.but e (band n).2 r2⟩
theorem RepWf.but (e : z.but z') : ∀ {w : List (String × W)} {v : List (Str × V)} {as : List Addr}, DL.noxf w = true → RepWf z G H w v as → RepWf z' G H w v as
  | [], _, _, _, r => r
  | (_, _) :: _, _, _, n, ⟨v, vs, a1, a2, q, q2, r, r2⟩ => ⟨v, vs, a1, a2, q, q2, RepW.but e (band n).1 r, RepWf.but e (band n).2 r2⟩
theorem RepWk.but (e : z.but z') : ∀ {w : List (Key × W)} {v : List (Key × V)} {as : List Addr}, DL.noxk w = true → RepWk z G H w v as → RepWk z' G H w v as
  | [], _, _, _, r => r
  | (_, _) :: _, _, _, n, ⟨v, vs, a1, a2, q, q2, r, r2⟩ => ⟨v, vs, a1, a2, q, q2, RepW.but e (band n).1 r, RepWk.but e (band n).2 r2⟩
end
theorem RepT.but (e : z.but z') {w : W} {v : V} {as : List Addr} (n : DL.nox w = true) (r : RepT z G H σ w v as) : RepT z' G H σ w v as := by
  cases w <;> first | exact RepW.but e n r | exact r
theorem RepT.nox (l : z.lx = false) {w : W} {v : V} {as : List Addr} (r : RepT z G H σ w v as) : DL.nox w = true := by
  cases w with
  | exn c fs => exact RepW.nox (w := .exn c fs) (G := G) (H := H) l r
  | _ => first | exact RepW.nox l r | rfl
theorem RepSt.nox (l : z.lx = false) : ∀ {ws : List W} {vs : List V} {as : List Addr}, RepSt z G H σ ws vs as → ws.all DL.nox = true
  | [], _, _, _ => rfl
  | _ :: _, _, _, ⟨_, _, _, _, _, _, r, r2⟩ => Bool.and_eq_true_iff.mpr ⟨RepT.nox l r, RepSt.nox l r2⟩
theorem RepSt.but (e : z.but z') : ∀ {ws : List W} {vs : List V} {as : List Addr}, ws.all DL.nox = true → RepSt z G H σ ws vs as → RepSt z' G H σ ws vs as
  | [], _, _, _, r => r
  | _ :: _, _, _, n, ⟨v, vs, a1, a2, q, q2, r, r2⟩ => ⟨v, vs, a1, a2, q, q2, RepT.but e (band n).1 r, RepSt.but e (band n).2 r2⟩
/-- what is kept when the error goes -/
def keepX (w : W) : Bool := match w with
  | .sto => true
  | .exn _ _ => false
  | .at_ _ => false
  | .hole => false
  | .oL _ => false
  | w => nosto w
theorem keepX_nox {w : W} (h : keepX w = true) : DL.nox w = true := by
  cases w <;> first | rfl | cases h | exact nosto_nox h
def dropO (o : Option W) : Option W := match o with
  | some w => if keepX w = true then some w else none
  | none => none
def dropX (env : Env) : Env := env.map dropO
theorem RepE.drop (e : z.but z') : ∀ {env : Env} {τ : St} {as : List Addr}, RepE z G H env τ as → ∃ as', RepE z' G H (dropX env) τ as' ∧ List.Sublist as' as
  | [], _, _, ⟨q, q2⟩ => by subst q q2; exact ⟨[], ⟨rfl, rfl⟩, List.Sublist.refl _⟩
  | none :: _, _, _, ⟨o, σ', q, r⟩ => by
    obtain ⟨as', h, s⟩ := RepE.drop e r
    exact ⟨as', ⟨o, σ', q, h⟩, s⟩
  | some w :: env, _, _, ⟨v, σ', a1, a2, q, q2, r, r2⟩ => by
    obtain ⟨as', h, s⟩ := RepE.drop e r2
    subst q2
    show ∃ as', RepE z' G H ((if keepX w = true then some w else none) :: dropX env) _ as' ∧ _
    by_cases k : keepX w = true
    · rw [if_pos k]
      exact ⟨a1 ++ as', ⟨v, σ', a1, as', q, rfl, RepW.but e (keepX_nox k) r, h⟩, List.Sublist.append_left s _⟩
    · rw [if_neg k]
      exact ⟨as', ⟨_, σ', q, h⟩, s.trans (List.sublist_append_right _ _)⟩
end
end DL

/-! DL21: try .. except .. as; hot places. -/
namespace DL
open PySem PySem.Spec
open PyProof.Rows L2
/-- z while the error i is handled -/
def Z.hot (z : Z) (i : ExI) : Z := { z with ex := some i, lx := true }
section
variable {z : Z} {stk : List W} {vs : List V} {env : Env} {σ : St} {H : Hp} {w : W} {v : V}
theorem Z.hot_but {i : ExI} : (z.hot i).but z := ⟨⟨rfl, rfl, fun _ h => h⟩, rfl, rfl⟩
theorem Z.to_hot {i : ExI} : z.but (z.hot i) := ⟨⟨rfl, rfl, fun _ h => h⟩, rfl, rfl⟩
theorem Core.hot {G : Hp} {i : ExI} (c : Core z G H) (h : ∀ dx, i.d = some dx → ∃ us, H dx = some (.xd us) ∧ RepF z G i.fs us) : Core (z.hot i) G H :=
  ⟨c.g0, c.gh, c.keep, c.fresh, c.sH, fun j hj dx hd => by
    cases hj
    obtain ⟨us, h1, h2⟩ := h dx hd
    exact ⟨us, h1, RepF.like (z := z) Z.to_hot.lk h2⟩, fun ho s hs => by
    obtain ⟨p, g, f, r, cc, u, xs, h1, h2, h3, h4, h5⟩ := c.sto ho s hs
    exact ⟨p, g, f, r, cc, u, xs, h1, h2, h3, Rep.like (z := z) Z.to_hot.lk h4, h5⟩⟩
theorem Core.cool {G : Hp} {i : ExI} (hz : z.ex = none) (c : Core (z.hot i) G H) : Core z G H :=
  ⟨c.g0, c.gh, c.keep, c.fresh, c.sH, fun j hj => (by rw [hz] at hj; cases hj), fun ho s hs => by
    obtain ⟨p, g, f, r, cc, u, xs, h1, h2, h3, h4, h5⟩ := c.sto ho s hs
    exact ⟨p, g, f, r, cc, u, xs, h1, h2, h3, Rep.like Z.hot_but.lk h4, h5⟩⟩
theorem repe_nox {G : Hp} (l : z.lx = false) {z' : Z} (e : z.but z') : ∀ {env : Env} {σ : St} {as : List Addr}, RepE z G H env σ as → RepE z' G H env σ as
  | [], _, _, h => h
  | none :: _, _, _, ⟨o, σ', q, r⟩ => ⟨o, σ', q, repe_nox l e r⟩
  | some _ :: _, _, _, ⟨v, σ', a1, a2, q, q2, r, r2⟩ => ⟨v, σ', a1, a2, q, q2, RepW.but e (RepW.nox l r) r, repe_nox l e r2⟩
/-- the error caught lies in slot n -/
theorem RelX.caught {x : Exn} {cls : Value} {d : Option Addr} (rx : RelX z stk vs x cls d env σ H) (hl : z.lx = false) (na : stk.all noat = true) {n : Nat} (hn : n < env.length) (a : Addr) :
    Rel (z.hot ⟨a, x.c, x.fs, d⟩) stk vs (env.set n (some (.exn x.c x.fs))) (σ.set n (some (.ref a))) H := by
  obtain ⟨G, C, ⟨as, bs, rs, re, nd, ow, c⟩, hm, ec, hf⟩ := rx
  have ns := RepSt.nox hl rs
  obtain ⟨b1, bi, b2, eb, put⟩ := (repe_nox hl (Z.to_hot (i := ⟨a, x.c, x.fs, d⟩)) re).put hn
  subst eb
  have r1 := put (.exn x.c x.fs) (.ref a) [] ⟨rfl, _, rfl, rfl, rfl, rfl, rfl⟩
  have sub : List.Sublist (as ++ (b1 ++ ([] ++ b2))) (as ++ (b1 ++ (bi ++ b2))) := List.Sublist.append_left (List.Sublist.append_left (List.sublist_append_right _ _) _) _
  refine ⟨G, as, b1 ++ ([] ++ b2), (RepSt.but Z.to_hot ns rs).set na, r1, nodup_sub sub nd, fun b m => ow b (sub.subset m), Core.hot c fun dx hd => ?_⟩
  obtain ⟨xc, xf⟩ := x
  cases xf with
  | nil =>
    have hf : d = none := hf
    have hd : d = some dx := hd
    rw [hf] at hd; cases hd
  | cons p fs =>
    obtain ⟨dx', us, e1, e2, e3⟩ := hf
    have hd : d = some dx := hd
    rw [e1] at hd; cases hd
    exact ⟨us, e2, e3⟩
/-- the error let go -/
theorem Rel.cool {i : ExI} (hz : z.ex = none) (r : Rel (z.hot i) stk vs env σ H) (ns : stk.all nox = true) : Rel z stk vs (dropX env) σ H := by
  obtain ⟨G, as, bs, rs, re, nd, ow, c⟩ := r
  obtain ⟨bs', re', s⟩ := RepE.drop Z.hot_but re
  exact ⟨G, as, bs', RepSt.but Z.hot_but ns rs, re', nodup_sub (List.Sublist.append_left s _) nd, fun a m => ow a ((List.Sublist.append_left s _).subset m), Core.cool hz c⟩
theorem Rel.unset (r : Rel z stk vs env σ H) (na : stk.all noat = true) (n : Nat) (o : Option V) : Rel z stk vs (env.set n none) (σ.set n o) H := by
  obtain ⟨G, as, bs, rs, re, nd, ow, c⟩ := r
  obtain ⟨bs', re', s⟩ := repe_none (i := n) (o := o) re
  exact ⟨G, as, bs', rs.set na, re', nodup_sub (List.Sublist.append_left s _) nd, fun a m => ow a ((List.Sublist.append_left s _).subset m), c⟩
end
/-! readings of suites, as the kit wants them -/
def tsS (K : PySem.W.Frag) (mg : Str → Option Value) (t : DTS) (Wx : WX) : TS := fun D σ H => ∃ z stk vs env E kx, Okz2 K mg true z ∧ stk.all noat = true ∧ Rel z stk vs env σ H ∧ t E kx env ∧ EndsOk z stk vs E kx D Wx
theorem DSs.star {Y : Cx} {st : List Stmt} {t : DTS} {Wx : WX} (hc : Y.calm = true) (h : DSs Y st t) (tk : L2N.Takes Y Wx) : PSs Y st (tsS Y.K Y.mg t Wx) := by
  obtain ⟨ts, p, f⟩ := h Wx tk
  exact ⟨fun pins s σ H D I ⟨z, stk, vs, env, E, kx, ok, na, r, ht, q⟩ => p.run pins s σ H D I (f z stk vs env σ H D E kx ⟨ok.k, ok.m, ok.op, fun _ => ⟨ok.cold rfl, ok.lx⟩, fun c => by rw [ok.lx] at c; cases c⟩ na r ht q)⟩
def tsU (K : PySem.W.Frag) (mg : Str → Option Value) (u : DTS) (a : Addr) (cls : Value) (d : Option Addr) : TS := fun D σ H => ∃ z stk vs env E i C, (z.K = K ∧ z.mg = mg ∧ z.op = false ∧ z.ex = some i ∧ z.lx = true) ∧ (i.a = a ∧ i.d = d ∧ cls = .ref C) ∧
  mg (Str.ofString i.c) = some (.ref C) ∧ ErF K mg i.c C ∧ (i.d = none → i.fs = []) ∧ stk.all noat = true ∧ Rel z stk vs env σ H ∧ u E kf env ∧ EndsOk z stk vs E kf D (fun _ _ _ _ => False)
/-- a place where an error is handled -/
structure FH (N : List Str) (sc : Scope) (fs : Option Scope) (k : Nat) (X : Cx) : Prop extends FB N sc fs k X where
  cx : X.calm = false
  hot : L2H.HotC X
theorem DSs.starU {X : Cx} {a : Addr} {oe : Obj} {pn : List (Addr × Obj)} {st : List Stmt} {u : DTS} {cls : Value} {d : Option Addr} (h : DSs (X.suite a ((a, oe) :: pn)) st u) (zn : L2N.Zn cls d oe) (fl : ∃ vs, oe.data = .fields vs) : PSs (X.suite a ((a, oe) :: pn)) st (tsU X.K X.mg u a cls d) := by
  obtain ⟨ts, p, f⟩ := h (fun _ _ _ _ => False) takesF
  refine ⟨fun pins s σ H D I ⟨z, stk, vs, env, E, i, C, ⟨k1, k2, k3, k4, k5⟩, ⟨q1, q2, q3⟩, mc, er, dn, na, r, ht, q⟩ => p.run pins s σ H D I (f z stk vs env σ H D E kf ⟨k1, k2, k3, (fun c => absurd (show false = true from c) Bool.false_ne_true), fun _ j hj => ?_⟩ na r ht q)⟩
  rw [k4] at hj
  cases hj
  subst q1 q2 q3
  exact ⟨rfl, oe, C, List.mem_cons_self, mc, er, zn, fl, dn⟩
def suE (E : DEnds) (i : Nat) : DEnds := { nx := fun e => E.nx (dropX (e.set i none)), rt := fun w e => nox w = true ∧ E.rt w (dropX e), bk := fun e => E.bk (dropX (e.set i none)), ct := fun e => E.ct (dropX (e.set i none)) }
/-- try: t, except y as slot i: u -/
def dTryAs (y : String) (i : Nat) (t u : DTS) : DTS := fun E kx env => t E (fun x e1 => if subX x.c y = true then i < e1.length ∧ u (suE E i) kf (e1.set i (some (.exn x.c x.fs))) else kx x e1) env
section
variable {X : Cx} {N : List Str} {sc : Scope} {k : Nat} {body sui : List Stmt} {b₀ : Stmt} {np pos pos' : Pos} {t u : DTS} {n : Str} {i : Nat}
theorem FX.tr (h : FX N sc none k X) (pn : List (Addr × Obj)) (xe : Value → Shared → Prop) : FX N sc none k (X.tr pn xe) := ⟨⟨h.n, h.nd, h.sc, h.fn, h.rm⟩, h.calm, h.room, h.top⟩
theorem FX.suite (h : FX N sc none k X) (a : Addr) (pn : List (Addr × Obj)) {oe : Obj} {cls : Value} {d : Option Addr} (zn : L2N.Zn cls d oe) (fl : ∃ vs, oe.data = .fields vs) : FH N sc none k (X.suite a ((a, oe) :: pn)) := ⟨⟨h.n, h.nd, h.sc, h.fn, ⟨h.rm.dp, h.rm.un⟩⟩, rfl, (a, oe), ⟨rfl, fl.elim fun vs e => ⟨vs, e, zn.2.2 vs e⟩⟩, List.mem_cons_self⟩
theorem FX.tryAs {y : String} (h : FX N sc none k X) (hi : tgC N sc none i n = true) (hil : (sc.names.lookup n == some .local) = true) (hy : glC sc (Str.ofString y) = true) (hY : ERR.contains y = true) (hm : ∃ D, X.mg (Str.ofString y) = some (.ref D))
    (hb : ∀ Y, FX N sc none k Y → PassesOwn (model Y.prog Y.w) Y.A Y.env Y.xe → Y.prog = X.prog → Y.w = X.w → Y.K = X.K → Y.mg = X.mg → Y.base = X.base → DSs Y body t)
    (hsu : ∀ Y, FH N sc none k Y → Y.prog = X.prog → Y.w = X.w → Y.K = X.K → Y.mg = X.mg → Y.base = X.base → DSs Y (b₀ :: sui) u) :
    DS X (.Try body [.ExceptHandler (some (.Name (Str.ofString y) np)) (some n) (b₀ :: sui) pos'] [] [] pos) (dTryAs y i t u) := fun Wx tk => by
  obtain ⟨D, hD⟩ := hm
  obtain ⟨hg, hdb, _⟩ := h.gl hy
  obtain ⟨hst, hfr⟩ := h.top rfl
  have hXi : X.N[i]? = some n := by rw [h.n]; exact eq_of_beq (band hi).1
  have hln : X.env.kindOf n = some .local := by
    show X.env.scope.names.lookup n = _
    rw [h.sc]; exact eq_of_beq hil
  refine ⟨_, L2N.ps_try_as (tb := fun W => tsS X.K X.mg t W) (ts := fun a cls d => tsU X.K X.mg u a cls d) hst hfr h.nd hXi hln ⟨hg, hdb, .inl hD⟩ tk
    (fun W pn xe tk' px => (hb (X.tr pn xe) (h.tr pn xe) px rfl rfl rfl rfl rfl).star h.calm tk')
    (fun a oe cls d pn zn fl => (hsu (X.suite a ((a, oe) :: pn)) (h.suite a pn zn fl) rfl rfl rfl rfl rfl).starU zn fl), fun z stk vs env σ H Dn E kx ok na r ht q => ?_⟩
  refine ⟨z, stk, vs, env, E, _, ⟨ok.k, ok.m, ok.op, (ok.cold h.calm).2, fun _ => (ok.cold h.calm).1⟩, na, r, ht, q.nx, q.rt, q.bk, q.ct, fun x e1 cls d σ1 H1 rx hk => ?_⟩
  obtain ⟨ze, zl⟩ := ok.cold h.calm
  obtain ⟨G, C, rg, ⟨mc, er⟩, ec, hf⟩ := id rx
  subst ec
  rw [ok.m] at mc
  rw [ok.k, ok.m] at er
  refine ⟨subX x.c y, er.ex y (List.contains_iff_mem.mp hY) D hD, fun hb a _ => ?_, fun hb => ?_⟩
  · rw [if_pos hb] at hk
    obtain ⟨hl, hk⟩ := hk
    have ns : stk.all nox = true := by
      obtain ⟨as, bs, rs, _⟩ := rg
      exact RepSt.nox zl rs
    have back : ∀ {env' : Env} {σ' : St} {H' : Hp}, Rel (z.hot ⟨a, x.c, x.fs, d⟩) stk vs env' σ' H' → Rel z stk vs (dropX (env'.set i none)) (σ'.set i none) H' := fun r' => (r'.unset na i none).cool ze ns
    refine ⟨z.hot ⟨a, x.c, x.fs, d⟩, stk, vs, _, suE E i, ⟨a, x.c, x.fs, d⟩, C, ⟨ok.k, ok.m, ok.op, rfl, rfl⟩, ⟨rfl, rfl, rfl⟩, mc, er, fun dn => ?_, na, rx.caught zl na hl a, hk, fun e' σ' H' r' h' => q.nx _ _ _ (back r') h', fun w e' v σ' H' r' ⟨h1, h2⟩ => ?_, fun e' σ' H' r' h' => q.bk _ _ _ (back r') h', fun e' σ' H' r' h' => q.ct _ _ _ (back r') h', fun _ _ _ _ _ _ _ h' => h'⟩
    · obtain ⟨xc, xf⟩ := x
      cases xf with
      | nil => rfl
      | cons p fs =>
        obtain ⟨dx, us, e1, _⟩ := hf
        have dn : d = none := dn
        rw [dn] at e1; cases e1
    · exact q.rt w _ v σ' H' (r'.cool ze (Bool.and_eq_true_iff.mpr ⟨h1, ns⟩)) h2
  · rw [if_neg (by rw [hb]; decide)] at hk
    exact q.x x e1 (.ref C) d σ1 H1 rx hk
end
end DL

/-! DL22: what is asked of a caught error; calls where one is handled. -/
namespace DL
open PySem PySem.Spec
open PyProof.Rows L2
theorem ofString_inj {a b : String} (h : (Str.ofString a : Str) = Str.ofString b) : a = b := by
  have h1 : (a.toList.map Char.toNat) = (b.toList.map Char.toNat) := by
    rw [Str.ofString_eq_toList, Str.ofString_eq_toList] at h
    simpa using congrArg (fun s : Str => s.cps.toList) h
  have h3 : a.toList = b.toList := by
    have inj : ∀ c d : Char, c.toNat = d.toNat → c = d := fun c d e => Char.ext (UInt32.toNat_inj.mp e)
    exact (List.map_inj_right (fun _ _ e => inj _ _ e)).mp h1
  exact String.toList_inj.mp h3
section
variable {X : Cx} {N : List Str} {sc : Scope} {fs : Option Scope} {k : Nat} {e o : Expr} {es : List Expr} {to : DTE} {tr : DTA} {pos p apos : Pos} {x : Str}
/-- the name of a class -/
theorem FB.cls {y : String} (h : FB N sc fs k X) (hc : glC sc (Str.ofString y) = true) (hm : ∃ C, X.mg (Str.ofString y) = some (.ref C)) : DE X (.Name (Str.ofString y) pos) (dC (.glo y)) := by
  obtain ⟨C, hm⟩ := hm
  obtain ⟨hg, hd, _⟩ := h.gl hc
  exact de_glob hg hm (v := .ref C) rfl (fun z ok G => ⟨C, by rw [ok.m]; exact hm, rfl⟩) hd
/-! isinstance -/
def rIsH (K : PySem.W.Frag) (pn : List (Addr × Obj)) : List V → Hp → VK → Prop := fun xs H Q => ∃ (a : Addr) (oe : Obj) (C : Addr) (d : Option Addr) (c : V) (cv : Value) (b : Bool), xs = [.ref a, c] ∧ (a, oe) ∈ pn ∧ L2N.Zn (.ref C) d oe ∧ (∃ vs, oe.data = .fields vs) ∧
  (∀ dx, d = some dx → ∃ us, H dx = some (.xd us)) ∧ (∃ mg y, ErF K mg y C) ∧ (∀ u, RelV c u → u = cv) ∧ PySem.W.kitOne K (.ref C) cv = some b ∧ Q (.bl b) H
theorem call_isH : CallR X (.builtin "isinstance") (rIsH X.K X.pn) := by
  intro pins s σ H xs us Q I r h
  obtain ⟨a, oe, C, d, c, cv, b, rfl, hp, zn, ⟨vs, hv⟩, hd, ⟨mg, y, er⟩, hcv, ek, q⟩ := h
  cases r with
  | cons rx rr =>
    cases rr with
    | cons rt rr =>
      cases rr
      cases rx
      have ec := hcv _ rt
      subst ec
      obtain ⟨hget, _⟩ := I.pin (a, oe) (List.mem_append_left _ hp)
      have fin : ∀ {od : Option Obj}, PySem.W.InstAt s.heap a oe C od → wpAny (model X.prog X.w) X.A (call (.builtin "isinstance") [.ref a, _]) (EP X pins σ Q) X.xe s := fun J =>
        PySem.W.kia_one (PySem.W.kitx_exc er.cl er.hga er.hgt er.hsub er.ha er.hn er.htk er.hm) I.kIn J ek (fun z => nomatch z) fun tk => ⟨.bl b, H, I.kept (t' := tk) fun _ _ z => z, rfl, q⟩
      have nc : PySem.W.notCls oe = true := by unfold PySem.W.notCls; rw [hv] <;> rfl
      cases d with
      | none => exact fin (od := none) ⟨hget, zn.1, nc, by rw [zn.2.1]; trivial⟩
      | some dx =>
        obtain ⟨us, hx⟩ := hd dx rfl
        have ho : ObjOk X.prog X.w H s.heap dx (.xd us) := I.hok dx _ hx
        obtain ⟨mA, hns, _⟩ := ho
        obtain ⟨od, h1, _⟩ := lookIn_ns hns
        exact fin (od := some od) ⟨hget, zn.1, nc, by rw [zn.2.1]; exact h1⟩
def kIsX (w w2 : W) (env : Env) (k : DK) : Prop := match peek env w, peek env w2 with
  | some (.exn c _), some (.d (.glo y)) => ERR.contains y = true ∧ k (.d (.bl (subX c y))) env
  | some (.exn _ _), some (.d (.ty y)) => y = "ValueError" ∧ k (.d (.bl true)) env
  | _, _ => False
theorem kIsX_elim {w w2 : W} {env : Env} {k : DK} (h : kIsX w w2 env k) : ∃ c f, peek env w = some (.exn c f) ∧ ((∃ y, peek env w2 = some (.d (.glo y)) ∧ ERR.contains y = true ∧ k (.d (.bl (subX c y))) env) ∨ (peek env w2 = some (.d (.ty "ValueError")) ∧ k (.d (.bl true)) env)) := by
  unfold kIsX at h
  split at h
  · rename_i c f y e1 e2
    exact ⟨c, f, e1, .inl ⟨y, e2, h⟩⟩
  · rename_i c f y e1 e2
    obtain ⟨rfl, h⟩ := h
    exact ⟨c, f, e1, .inr ⟨e2, h⟩⟩
  · exact h.elim
/-- what the relation says of the caught error -/
theorem Rel.err {z : Z} {stk : List W} {vs : List V} {env : Env} {σ : St} {H : Hp} {w : W} {v : V} {c : String} {f : List (String × D)} (ok : Okz X z) (r : Rel z (w :: stk) (v :: vs) env σ H) (h : peek env w = some (.exn c f)) :
    ∃ i oe C, z.ex = some i ∧ z.lx = true ∧ v = .ref i.a ∧ i.c = c ∧ i.fs = f ∧ X.A.handled = some (.ref i.a) ∧ (i.a, oe) ∈ X.pn ∧ HotO X.K X.mg i oe C ∧ ∃ G, Same G H ∧ ∀ dx, i.d = some dx → ∃ us, H dx = some (.xd us) ∧ RepF z G i.fs us := by
  obtain ⟨G, as, g, _, i, h1, h2, h3, h4, h5⟩ := Rel.look r h
  obtain ⟨hh, oe, C, hp, ho⟩ := ok.hot h5 i h1
  obtain ⟨G2, as2, bs2, _, _, _, _, cr⟩ := r
  exact ⟨i, oe, C, h1, h5, h2, h3, h4, hh, hp, ho, G2, cr.gh, cr.xd i h1⟩
theorem cd_isX : CallD X (rIsH X.K X.pn) (s2 kIsX) := calld2 fun z stk vs env σ H Q k w v w2 v2 ok r u q => by
  obtain ⟨c, f, h1, h2⟩ := kIsX_elim u
  obtain ⟨i, oe, C, hz, hl, rfl, hc, hf, hh, hp, ho, G, hG, hd⟩ := r.err ok h1
  have dd : ∀ dx, i.d = some dx → ∃ us, H dx = some (.xd us) := fun dx e => (hd dx e).imp fun us h => h.1
  have r2 : Rel z (w2 :: stk) (v2 :: vs) env σ H := r.pop
  have r0 := r2.pop
  rcases h2 with ⟨y, e2, hy, hk⟩ | ⟨e2, hk⟩
  · obtain ⟨a2, m2, rfl⟩ := (r2.look e2).d
    have m3 : X.mg (Str.ofString y) = some (.ref a2) := ok.m ▸ m2
    exact ⟨i.a, oe, C, i.d, .ref a2, .ref a2, _, rfl, hp, ho.zn, ho.fl, dd, ⟨_, _, ho.er⟩, fun u hu => hu, ho.er.is y (List.contains_iff_mem.mp hy) a2 m3, by rw [hc]; exact q _ _ _ _ r0.pushBl hk⟩
  · have ev : v2 = .ty "ValueError" := (r2.look e2).d
    subst ev
    exact ⟨i.a, oe, C, i.d, .ty "ValueError", .type "ValueError", _, rfl, hp, ho.zn, ho.fl, dd, ⟨_, _, ho.er⟩, fun u hu => hu, ho.er.ve, q _ _ _ _ r0.pushBl hk⟩
theorem FB.isx (h : FB N sc fs k X) (hc : glC sc "isinstance" = true) (hm : X.mg "isinstance" = none) (hp : Pls (e :: es)) (ha : DA X (e :: es) tr) : DE X (.Call (.Name "isinstance" p) (e :: es) [] pos) (dCl (s2 kIsX) tr) := h.bl hc hm b_isi call_isH cd_isX hp ha
/-! err.f -/
def tXfH (K : PySem.W.Frag) (pn : List (Addr × Obj)) (f : Str) (te : TE) : TE := fun σ H Q => te σ H fun x H1 => ∃ (a : Addr) (oe : Obj) (C dd : Addr) (us : List (Str × V)) (v : V), x = .ref a ∧ (a, oe) ∈ pn ∧ L2N.Zn (.ref C) (some dd) oe ∧ (∃ vs, oe.data = .fields vs) ∧ XfC K C ∧ PySem.W.findIn K (.ref C) f = some none ∧
  H1 dd = some (.xd us) ∧ us.lookup f = some v ∧ Q v H1
theorem pe_xfH {f : Str} {te : TE} (he : PE X o te) (hb : attributeBase o f X.env (eval o X.env) = eval o X.env) : PE X (.Attribute o f pos) (tXfH X.K X.pn f te) := by
  refine ⟨fun pins s σ H Q I h => attr_of hb (thn (he.run pins s σ H _ I h) fun u s1 hh => ?_)⟩
  obtain ⟨x, H1, I1, rx, a, oe, C, dd, us, v, ex, hp, zn, ⟨vs, hd⟩, T, hno, ea, l, q⟩ := hh
  subst ex
  obtain rfl : u = Value.ref a := rx
  have hget := (I1.pin (a, oe) (List.mem_append_left _ hp)).1
  have hx : ObjOk X.prog X.w H1 s1.heap dd (.xd us) := I1.hok dd _ ea
  obtain ⟨mA, hns, hr⟩ := hx
  obtain ⟨od, ho, hl⟩ := lookIn_ns hns
  obtain ⟨u, hu, ru⟩ := RelO.some_of (v := v) (o := mA f) (by rw [← l]; exact hr f)
  have J : PySem.W.InstAt s1.heap a oe C (some od) := ⟨hget, zn.1, by unfold PySem.W.notCls; rw [hd] <;> rfl, by rw [zn.2.1]; exact ho⟩
  exact HandSPX.exc_get I1.kIn J T.ga T.gg T.exC (PySem.W.findObj_own T.hdC hno rfl (by rw [hl, hu])) (handed_of ru) ⟨v, H1, I1.tok _, ru, q⟩
def kXf (f : String) (w : W) (env : Env) (k : DK) : Prop := match peek env w with
  | some (.exn _ fs) => XFLD.contains f = true ∧ match fs.lookup f with
    | some x => k (.d x) env
    | none => False
  | _ => False
def dXf (f : String) (to : DTE) : DTE := fun env k kx => to env (fun w e1 => kXf f w e1 k) kx
theorem repf_look {z : Z} {G : Hp} {f : String} {x : D} : ∀ {fs : List (String × D)} {us : List (Str × V)}, RepF z G fs us → fs.lookup f = some x → ∃ v, us.lookup (Str.ofString f) = some v ∧ Rep z G x v
  | [], _, _, h => by cases h
  | (n, y) :: fs, _, ⟨v, vs, q, r, r2⟩, h => by
    subst q
    rw [List.lookup_cons] at h ⊢
    by_cases e : f = n
    · subst e
      have e1 : (f == f) = true := beq_self_eq_true f
      have e2 : ((Str.ofString f : Str) == Str.ofString f) = true := beq_self_eq_true _
      rw [e1] at h
      rw [e2]
      cases h
      exact ⟨v, rfl, r⟩
    · have e1 : (f == n) = false := by simpa using e
      have e2 : ((Str.ofString f : Str) == Str.ofString n) = false := by
        refine Bool.eq_false_iff.mpr fun q => e (ofString_inj (eq_of_beq q))
      rw [e1] at h
      rw [e2]
      exact repf_look r2 h
theorem FB.xattr {f : String} (h : FB N sc fs k X) (hb : Ab o) (ho : DE X o to) : DE X (.Attribute o (Str.ofString f) pos) (dXf f to) := fun Wx tk => by
  obtain ⟨te, pe, fe⟩ := ho Wx tk
  refine ⟨_, pe_xfH pe (hb _ _), fun z stk vs env σ H Q k kx ok r t q qx => fe z stk vs env σ H _ _ kx ok r t (fun w e1 v H1 r1 k1 => ?_) qx⟩
  unfold kXf at k1
  split at k1
  · rename_i c fl e1
    obtain ⟨hf, k1⟩ := k1
    obtain ⟨i, oe, C, hz, hl, rfl, hc, hfs, hh, hp, hO, G, hG, hd⟩ := r1.err ok e1
    split at k1
    · rename_i x hx
      have hdd : ∃ dx, i.d = some dx := by
        cases e : i.d with
        | some dx => exact ⟨dx, rfl⟩
        | none =>
          have := hO.dn e
          rw [hfs] at this
          rw [this] at hx; cases hx
      obtain ⟨dx, hdx⟩ := hdd
      obtain ⟨us, hu, hr⟩ := hd dx hdx
      rw [hfs] at hr
      obtain ⟨u, lu, ru⟩ := repf_look hr hx
      have zn := hO.zn
      rw [hdx] at zn
      refine ⟨i.a, oe, C, dx, us, u, rfl, hp, zn, hO.fl, ⟨hO.er.hga, hO.er.hgt, hO.er.hsub, hO.er.hd⟩, hO.er.na f (List.contains_iff_mem.mp hf), hu, lu, q _ _ _ _ ?_ k1⟩
      refine r1.pop.push fun G' g0 gh cr => ?_
      obtain ⟨us2, hu2, hr2⟩ := cr.xd i hz dx hdx
      rw [hu] at hu2
      cases hu2
      rw [hfs] at hr2
      obtain ⟨u2, lu2, ru2⟩ := repf_look hr2 hx
      rw [lu] at lu2
      cases lu2
      exact ru2
    · exact k1.elim
  · exact k1.elim
end
end DL

/-! DL23: defs that are called with a caught error. -/
namespace DL
open PySem PySem.Spec
open PyProof.Rows L2
/-- what a def promises where the error at a (its object oe) is handled -/
structure FnHp (P : Program) (w : World) (K : PySem.W.Frag) (mg : Str → Option Value) (base : Heap) (k : Nat) (f : Addr) (fd : FuncData) (ps : List Str) (a : Addr) (oe : Obj) (sp : Sp) : Prop where
  len : ∀ vs H Q E, sp vs H Q E → vs.length = ps.length
  run : ∀ (B : Around) (out : List PySem.Env) (s : Shared) (H : Hp) (args : Args) (us : List Value) (vs : List V) (Q : VK) (E : XK), L2H.RoomH k B → L2H.Hot1 B (a, oe) → L2H.PinOk out H s (a, oe) → Env0 P w K mg base B out s H →
    BindsTo s fd args (ps.zip us) → Vals vs us → sp vs H Q E → codeAny (model P w) B (.call (.ref f) args) (CR (L2N.CX P w) out P w H s Q E) s
section
variable {P : Program} {w : World} {K : PySem.W.Frag} {mg : Str → Option Value} {base : Heap} {x qual : Str} {params : Arguments} {body : List Stmt} {scope : Scope} {dvs : List V} {kws : List (Str × V)} {f : Addr} {fd : FuncData} {N ps : List Str} {k : Nat} {a : Addr} {oe : Obj} {sp : Sp}
abbrev cxP (P : Program) (w : World) (K : PySem.W.Frag) (mg : Str → Option Value) (base : Heap) (N : List Str) (qual : Str) (scope : Scope) (f : Addr) (cdv : Value) (B : Around) (out : List PySem.Env) (s : Shared) (H : Hp) (E : XK) (a : Addr) (oe : Obj) : Cx :=
  L2H.cxH (L2N.CX P w) P w K mg base N qual scope f cdv B out s H E (a, oe)
theorem FunD.okHp (F : FunD K x qual params body scope dvs kws f fd) (S : FnScope N ps scope) (len : ∀ vs H Q E, sp vs H Q E → vs.length = ps.length)
    (hb : ∀ (cdv : Value) (B : Around) (out : List PySem.Env) (s : Shared) (H : Hp) (vs : List V) (Q : VK) (E : XK), L2H.Hot1 B (a, oe) → L2H.RoomH k (B.deeper (envOfC qual scope s.heap.objs.size f cdv)) → sp vs H Q E →
      ∃ t, PSs (cxP P w K mg base N qual scope f cdv B out s H E a oe) body t ∧ t { nx := fun _ H' => Q .non H', rt := Q } (start N vs) H) : FnHp P w K mg base (k + 1) f fd ps a oe sp := by
  obtain ⟨oc, od, dV, kV, doc, pm, an, cdv, ct, osl, rfl, lk, hcd, _, _⟩ := F.ex
  refine ⟨len, fun B out s H args us vs Q E room hot pin ev bt rv hs => ?_⟩
  have el := len _ _ _ _ hs
  have inK := ev.mod.kin.keeps fun b o e => (ev.bs b o e).1
  have nl := ev.mod.nolimit.keeps fun b o e => (ev.bs b o e).1
  have kinds : ∀ y ∈ ps.zip us, scope.names.lookup y.1 = some .local ∨ (scope.names.lookup y.1 = some .cell ∧ ((cellsFrom (s.heap.objs.size + 1) scope.names []).lookup y.1).isSome = true) := by
    rintro ⟨n, v⟩ hy
    exact (S.par n (List.of_mem_zip hy).1).imp id fun q => ⟨q, PySem.W.cellsFrom_some _ _ _ (.inl q)⟩
  refine codeAny_call_function room.depth (inK _ _ lk) rfl S.co S.gen rfl (PySem.W.codeRec_of inK hcd) (bt _ _ _ _ ?_)
  refine wpAny_newFunctionEnv_cells S.kind kinds fun en eq1 s1 ic => ?_
  subst eq1
  refine ⟨nl.keeps ic.toInCall.keep, codeAny_func ?_⟩
  obtain ⟨t, pt, ht⟩ := hb cdv B out s H vs Q E hot (room.deeper _) hs
  have J : L2.Inv (cxP P w K mg base N qual scope f cdv B out s H E a oe) [] (L2.start N vs) H s1 := L2H.inv_startH S pin ev el rv ic
  have done : ∀ {τ : L2.St} {H2 : Hp} {y : V} {u : Value} {s2 : Shared}, L2.Inv (cxP P w K mg base N qual scope f cdv B out s H E a oe) [] τ H2 s2 → RelV y u → Q y H2 → CE out P w H s Q u s2 :=
    fun {τ H2 y u s2} J2 ry q => ⟨y, H2, J2.os, J2.bare, J2.base, J2.hok, ry, q⟩
  refine wpAny_mono (pt.run [] s1 (L2.start N vs) H _ J ht) ?_ fun e s' q => q
  intro fl s2 q
  cases fl with
  | ret u => obtain ⟨y, τ, H2, J2, ry, q2⟩ := q; exact done J2 ry q2
  | next => obtain ⟨τ, H2, J2, q2⟩ := q; exact done (y := V.non) (u := Value.none) J2 rfl q2
  | brk => obtain ⟨_, _, _, q2⟩ := q; exact q2.elim
  | cont => obtain ⟨_, _, _, q2⟩ := q; exact q2.elim
/-! promises -/
def toSpH (K : PySem.W.Frag) (mg : Str → Option Value) (n : Nat) (s : DSp) (i : ExI) : Sp := fun vs H Q _ => vs.length = n ∧ ∃ (z : Z) (ws : List W) (k : W → Prop), z.K = K ∧ z.mg = mg ∧ (z.op = false ∧ z.ex = some i ∧ z.lx = true) ∧ z.H0 = H ∧ ws.all isArg = true ∧ RepWs z z.G0 H ws vs [] ∧ Core z z.G0 H ∧ s ws k (fun _ => False) ∧
  (∀ w v H', tree w = true → Rel z [w] [v] [] [] H' → k w → Q v H')
/-- a def of the module, called with a caught error -/
def DFnH (P : Program) (w : World) (K : PySem.W.Frag) (mg : Str → Option Value) (base : Heap) (x : Str) (ps : List Str) (k : Nat) (s : DSp) : Prop :=
  ∃ f fd, mg x = some (.ref f) ∧ PySem.W.keepIn K (.ref f) = true ∧ Binds K fd ps [] ∧ ∀ i oe C, HotO K mg i oe C → FnHp P w K mg base k f fd ps i.a oe (toSpH K mg ps.length s i)
theorem DFnH.on {X Y : Cx} {s : DSp} (F : DFnH X.prog X.w X.K X.mg X.base x ps k s) (h1 : Y.prog = X.prog) (h2 : Y.w = X.w) (h3 : Y.K = X.K) (h4 : Y.mg = X.mg) (h5 : Y.base = X.base) : DFnH Y.prog Y.w Y.K Y.mg Y.base x ps k s := by
  rw [h1, h2, h3, h4, h5]; exact F
theorem DFnH.here {X : Cx} {s : DSp} (F : DFnH P w K mg base x ps k s) (e1 : X.prog = P) (e2 : X.w = w) (e3 : X.K = K) (e4 : X.mg = mg) (e5 : X.base = base) : DFnH X.prog X.w X.K X.mg X.base x ps k s := by
  subst e1 e2 e3 e4 e5; exact F
/-- what such a def's walk gives -/
def WalkH (P : Program) (w : World) (K : PySem.W.Frag) (mg : Str → Option Value) (base : Heap) (N : List Str) (scope : Scope) (k : Nat) (body : List Stmt) (t : DTS) : Prop :=
  ∀ X : Cx, X.prog = P → X.w = w → X.K = K → X.mg = mg → X.base = base → FH N scope none k X → DSs X body t
theorem fnokH {s : DSp} {t : DTS} (F : FunD K x qual params body scope dvs kws f fd) (S : FnScope N ps scope) (hw : WalkH P w K mg base N scope k body t) (hp : ∀ ws k kx, ws.length = ps.length → s ws k kx → t (retE k) (fun x _ => kx x) (startE N ws)) :
    ∀ i oe C, HotO K mg i oe C → FnHp P w K mg base (k + 1) f fd ps i.a oe (toSpH K mg ps.length s i) := fun i oe C ho => by
  refine FunD.okHp F S (fun vs H Q E h => h.1) fun cdv B out s0 H vs Q E hot room h => ?_
  obtain ⟨l, z, ws, k1, e1, e2, e3, e4, aw, rw_, c, hs, hk⟩ := h
  have fh : FH N scope none k (cxP P w K mg base N qual scope f cdv B out s0 H E i.a oe) := ⟨⟨rfl, S.nd, rfl, fun _ _ => rfl, room⟩, rfl, (i.a, oe), hot, List.mem_singleton.mpr rfl⟩
  obtain ⟨ts, p, fm⟩ := hw _ rfl rfl rfl rfl rfl fh (fun _ _ _ _ => False) takesF
  refine ⟨ts, p, ?_⟩
  have lw : ws.length = ps.length := (repws_len rw_).symm.trans l
  refine fm z [] [] (startE N ws) _ H _ (retE k1) (fun x _ => False) ⟨e1, e2, e3.1, (fun q => absurd (show false = true from q) Bool.false_ne_true), fun _ j hj => ?_⟩ rfl (rel_start rw_ c) (hp ws k1 (fun _ => False) lw hs) ⟨fun env σ H' r h => ?_, fun w env v σ H' r ⟨w0, h1, h2⟩ => ?_, fun _ _ _ _ h => h, fun _ _ _ _ h => h, fun x env cls d σ H' r h => h⟩
  · rw [e3.2.1] at hj
    cases hj
    exact ⟨hot.1, oe, C, List.mem_singleton.mpr rfl, ho⟩
  · refine hk (.d .non) .non H' rfl ?_ h
    exact (Rel.out1 (w0 := .d .non) (Rel.pushNon r) rfl)
  · exact hk w0 v H' (peek_tree r h1) (Rel.out1 r h1) h2
end
/-! calls -/
def isExn : W → Bool
  | .exn _ _ => true
  | _ => false
/-- a call where an error is handled, which is among the arguments -/
def dCallH (n : Nat) (s : DSp) (tr : DTA) : DTE := fun env k kx => tr env (fun ws e1 => ws.length = n ∧ argsD ws e1 fun ws' e2 => ws'.any isExn = true ∧ s ws' (fun w => nosto w = true ∧ k w (if clear w = true then e1 else e2)) fun _ => False) kx
section
variable {X : Cx} {x : Str} {e : Expr} {es : List Expr} {tr : DTA} {p pos : Pos} {N ps : List Str} {sc : Scope} {fs : Option Scope} {j k : Nat} {s : DSp} {f : Addr} {fd : FuncData} {sp : Sp} {a : Addr} {oe : Obj}
theorem run_fnHp {pins : List (Addr × Obj)} {σ : L2.St} {H : Hp} {s : Shared} {Q : VK} {us : List Value} {vs : List V} (F : FnHp X.prog X.w X.K X.mg X.base k f fd ps a oe sp) (hr : L2H.RoomH k X.A) (hh : X.A.handled = some (.ref a)) (hp : (a, oe) ∈ X.pn) (hc : ∃ ds : Array Value, oe.data = .fields ds ∧ ds[2]? = some .none)
    (hb : Binds X.K fd ps []) (I : L2.Inv X pins σ H s) (r : Vals vs us) (h : sp vs H Q (fun _ _ _ => False)) : wpAny (model X.prog X.w) X.A (call (.ref f) us) (EP X pins σ Q) X.xe s := by
  have hl : us.length = ps.length := by rw [← r.length]; exact F.len _ _ _ _ h
  have b := hb s us I.kIn (by rw [List.append_nil]; exact hl)
  rw [List.append_nil] at b
  obtain ⟨g1, g2, g3, g4, g5⟩ := I.pin (a, oe) (List.mem_append_left _ hp)
  have pin : L2H.PinOk X.stack H s (a, oe) := ⟨g1, g2, fun hm => (List.mem_cons.mp (I.stkSub a hm)).elim g3 g4, g5⟩
  refine wpAny_call (codeAny_mono (F.run X.A X.stack s H ⟨us, []⟩ us vs Q _ hr ⟨hh, hc⟩ pin I.env0 b r h) fun r s' q => ?_)
  match r, q with
  | .error e, q => obtain ⟨_, _, _, _, _, _, _, _, _, _, _, _, z⟩ := q; exact z.elim
  | .ok (.ret u), q => exact I.after q
theorem pe_callHp {t : TA} {g : Sp → Prop} (he : ∀ (pins : List (Addr × Obj)) (σ : L2.St) (H : Hp) (s : Shared) (Q : VK) (us : List Value) (vs : List V), L2.Inv X pins σ H s → Vals vs us → (∃ sp, g sp ∧ sp vs H Q (fun _ _ _ => False)) → wpAny (model X.prog X.w) X.A (call (.ref f) us) (EP X pins σ Q) X.xe s)
    (hg : Gl X x) (hm : X.mg x = some (.ref f)) (hk : PySem.W.keepIn X.K (.ref f) = true) (ha : PA X (e :: es) t) (hdb : (x == ("__debug__" : Str)) = false) (hp : Pls (e :: es)) :
    PE X (.Call (.Name x p) (e :: es) [] pos) (fun σ H Q => t σ H fun vs H1 => ∃ sp, g sp ∧ sp vs H1 Q (fun _ _ _ => False)) := by
  refine ⟨fun pins s σ H Q I h => wpAny_Call_Name_kw (ld_glob I hg hm ?_ hdb)⟩
  refine PySem.W.callWith_K (h₀ := X.base) I.ok.mod.kin hk (thn (ha.run pos pins s σ H _ I h) fun us s1 ⟨vs, H1, I1, r, q⟩ => ⟨I1.kIn, ?_⟩) (hp.hd.star _ _) hp.tl.any
  exact he pins σ H1 s1 Q us vs I1 r q
theorem exn_at {z : Z} {G H : Hp} {σ : L2.St} : ∀ {ws : List W} {vs : List V} {as : List Addr}, RepSt z G H σ ws vs as → ws.any isExn = true → z.lx = true ∧ ∃ i, z.ex = some i
  | [], _, _, _, h => by cases h
  | w :: ws, _, _, ⟨v, vs', a1, a2, q, q2, r, r2⟩, h => by
    cases w with
    | exn c f => obtain ⟨_, i, h1, _, _, _, h2⟩ := r; exact ⟨h2, i, h1⟩
    | _ => exact exn_at r2 h
theorem FH.call (h : FH N sc fs k X) (F : DFnH X.prog X.w X.K X.mg X.base x ps j s) (hj : Nat.ble j k = true) (hc : glC sc x = true) (hp : Pls (e :: es)) (ha : DA X (e :: es) tr) : DE X (.Call (.Name x p) (e :: es) [] pos) (dCallH ps.length s tr) := fun Wx tk => by
  obtain ⟨ta, pa, fa⟩ := ha Wx tk
  obtain ⟨f, fd, hm, hk, hb, F⟩ := F
  obtain ⟨hg, hdb, _⟩ := h.gl hc
  refine ⟨_, pe_callHp (g := fun sp => ∃ i oe C, HotI X.K X.mg X.A X.pn i ∧ (i.a, oe) ∈ X.pn ∧ HotO X.K X.mg i oe C ∧ sp = toSpH X.K X.mg ps.length s i) (fun pins σ H s1 Q us vs I r ⟨sp, ⟨i, oe, C, ⟨hh, _⟩, hpn, ho, es⟩, hs⟩ => ?_) hg hm hk pa hdb hp, fun z stk vs env σ H Q kk kx ok r t q qx => ?_⟩
  · subst es
    obtain ⟨ds, hd⟩ := ho.fl
    exact run_fnHp (F i oe C ho) (h.rm.mono (Nat.le_of_ble_eq_true hj)) hh hpn ⟨ds, hd, ho.zn.2.2 ds hd⟩ hb I r hs
  refine fa z stk vs env σ H _ _ kx ok r t (fun ws env1 us H1 l r1 ⟨hl, u⟩ => ?_) qx
  obtain ⟨ws', env', aw, lw, r2, hex, hs⟩ := Rel.args r1 l u
  have r0 : Rel z stk vs env1 σ H1 := Rel.drop r1 l
  obtain ⟨G, rg⟩ := r2
  have c := RelG.core rg
  obtain ⟨as, bs, rs, re, nd, ow, _⟩ := id rg
  obtain ⟨v1, v2, a1, a2, e1, e2, q1, q2⟩ := rs.split
  obtain ⟨e3, e4⟩ := List.append_inj e1 (by rw [l, q1.len, lw])
  subst e3 e4 e2
  obtain ⟨hlx, i, hi⟩ := exn_at q1 hex
  obtain ⟨hh, oe, C, hpn, ho⟩ := ok.hot hlx i hi
  obtain ⟨e5, ha⟩ := repws_args aw q1
  subst e5
  have rd : RelG z G stk vs env' σ H1 := ⟨a2, bs, q2, re, nd, ow, c⟩
  refine ⟨_, ⟨i, oe, C, ⟨hh, oe, C, hpn, ho⟩, hpn, ho, rfl⟩, by rw [l, hl], z.inn G H1, ws', _, ok.k, ok.m, ⟨ok.op, hi, hlx⟩, rfl, aw, ha H1, c.inn ok.op, hs, fun w v H' tw r' ⟨_, hk⟩ => ?_⟩
  by_cases hc : clear w = true
  · rw [if_pos hc] at hk
    exact q _ _ _ _ (Rel.back0 r0 ok.op r' tw hc) hk
  · rw [if_neg hc] at hk
    exact q _ _ _ _ (RelG.back1 rd ok.op r' tw) hk
end
end DL

/-! DL24: list comprehensions over a range where an error is handled. -/
namespace DL
open PySem PySem.Spec
open PyProof.Rows L2
section
variable {X : Cx}
/-- the block's context, with the handled error pinned -/
abbrev blkH (X : Cx) (p : Addr × Obj) (s : Shared) (H : Hp) (sc : Scope) (ce : PySem.Env) (fp : List Addr) : Cx := { X.blk s H sc ce fp with pn := [p] }
theorem blkH_ok {p : Addr × Obj} {s : Shared} {H : Hp} {sc : Scope} {ce : PySem.Env} {fp : List Addr} (o : (X.blk s H sc ce fp).Ok) : (blkH X p s H sc ce fp).Ok :=
  ⟨o.mod, o.kind, o.glob, o.blt, o.above, o.inj, o.has, o.cab, o.hd, o.frames, o.stk, o.exf, o.bs, o.bsz, o.noex, o.exfs, o.funs, o.frf⟩
/-- what is known of the pinned error at the block's start -/
structure PinB (X : Cx) (p : Addr × Obj) (s : Shared) (H : Hp) (fp : List Addr) : Prop where
  get : s.heap.get? p.1 = some p.2
  fr : H p.1 = none
  nfs : p.1 ∉ frs X.stack
  nfp : p.1 ∉ fp
  nc : ∀ v, p.2.data ≠ .cell v
theorem Inv.toH {p : Addr × Obj} {s t : Shared} {H J : Hp} {sc : Scope} {ce : PySem.Env} {fp : List Addr} {pl : List (Addr × Obj)} {σ : L2.St} (b : PinB X p s H fp) (hl : s.heap.objs.size ≤ ce.locals) (I : L2.Inv (X.blk s H sc ce fp) pl σ J t) : L2.Inv (blkH X p s H sc ce fp) pl σ J t := by
  refine ⟨blkH_ok I.ok, I.os, I.bare, I.base, I.loc, I.cell, I.free, I.freeC, fun q hq => ?_, I.hok, I.len⟩
  rcases List.mem_cons.mp (show q ∈ p :: pl from hq) with e | hq
  · subst e
    refine ⟨I.base.keep _ _ b.get b.fr b.nfs b.nfp, I.base.free _ _ b.get b.fr b.nfp, ?_, b.nfs, b.nc⟩
    exact fun e => absurd (Nat.lt_of_lt_of_le (Heap.lt_size b.get) hl) (by rw [e]; exact Nat.lt_irrefl _)
  · exact I.pin q (List.mem_append_right _ hq)
theorem Inv.ofH {p : Addr × Obj} {s t : Shared} {H J : Hp} {sc : Scope} {ce : PySem.Env} {fp : List Addr} {pl : List (Addr × Obj)} {σ : L2.St} (o : (X.blk s H sc ce fp).Ok) (I : L2.Inv (blkH X p s H sc ce fp) pl σ J t) : L2.Inv (X.blk s H sc ce fp) pl σ J t :=
  ⟨o, I.os, I.bare, I.base, I.loc, I.cell, I.free, I.freeC, fun q hq => I.pin q (List.mem_append_right _ (show q ∈ pl from hq)), I.hok, I.len⟩
/-- THE RULE, for an iterator that stands where an error is handled -/
theorem lc_hot {pl : List (Addr × Obj)} {s0 : Shared} {τ : L2.St} {J0 : Hp} {Q : VK} {elt tg iter : Expr} {ifs : List Expr} {sc : Scope} {own : List (Str × Nat)} {p1 p2 : Pos} {wi : TI} {g : TG} {tt : TT} {te : TE}
    {p : Addr × Obj} (hot1 : L2H.Hot1 X.A p) (pin : p ∈ X.pn) (nd : X.N.Nodup) (I : L2.Inv X pl τ J0 s0) (hi : L2H.PIH X tg iter wi) (bk : BlkOk X.N X.env.scope sc own)
    (tgp : ∀ (s : Shared) (H : Hp) (C : Addr) (cl : List (Str × Addr)) (fp : List Addr), PG (blkH X p s H sc (compEnvC sc cl C X.env) fp) tg g)
    (tsp : ∀ (s : Shared) (H : Hp) (C : Addr) (cl : List (Str × Addr)) (fp : List Addr), PTs (blkH X p s H sc (compEnvC sc cl C X.env) fp) ifs tt)
    (elp : ∀ (s : Shared) (H : Hp) (C : Addr) (cl : List (Str × Addr)) (fp : List Addr), PE (blkH X p s H sc (compEnvC sc cl C X.env) fp) elt te)
    (pure_ : ∀ x, foldedSetIterable iter X.env x = pure x) (rd : tLc wi g tt te (own.map (·.2)) τ J0 Q) :
    wpAny (model X.prog X.w) X.A (comprehension (.ListComp elt [⟨tg, iter, ifs, 0⟩] sc p1) sc X.env p2 (newList []) false (eval iter X.env) none) (EP X pl τ Q) X.xe s0 := by
  have freeN : ∀ y ∈ sc.names, y.2 = .free → ∃ c, X.env.cells.lookup y.1 = some c := by
    intro y hy e
    exact (bk.free y hy e).elim (fun q => I.ok.has _ (.inl q)) fun q => I.ok.has _ (.inr q)
  refine wpAny_comprehension_free (use := none) rfl pure_ (closure_ok freeN) bk.kind (fun y hy e => by rw [bk.uniq y hy, e]) (thn (hi.run pl s0 τ J0 _ I rd) fun xv sA hA => thn hA fun iv sB hB => ?_)
  obtain ⟨it, fp, tn, J, JB, ei, IB, T, stB, fB, rd⟩ := hB
  subst ei
  refine wpAny_newObj_type (newEnv_comp ?_) (by show 0 ≤ sizeLine; decide)
  generalize eL : sB.heap.objs.size = L
  have nL : JB L = none := IB.hok.fresh (Nat.le_of_eq eL)
  obtain ⟨W, ⟨m0, w0⟩, turn⟩ := rd L nL
  generalize eC : ({ sB with heap := sB.heap.push { cls := .type "list", data := .seq ([] : List Value).toArray } } : Shared) = sC
  have hC : sC.heap = sB.heap.push { cls := .type "list", data := .seq ([] : List Value).toArray } := by subst eC; rfl
  have up : ∀ b o, sB.heap.get? b = some o → sC.heap.get? b = some o := fun b o e => by rw [hC]; exact Heap.get?_push_of_some _ e
  have IC : L2.Inv X pl τ (upd JB L (.lst [])) sC := by
    subst eC
    refine IB.laid (t' := sB.toks) up (Nat.le_of_eq eL) ⟨Nat.zero_le _, [], 0, .nil, ?_⟩
    subst eL
    exact Heap.get?_push_size _ rfl
  have below : ∀ b ∈ fp, b < sB.heap.objs.size := fun b hb => (T.obj _ _ stB b hb).elim fun o q => Heap.lt_size q.1
  have fC : ∀ b ∈ fp, FpOk X pl (upd JB L (.lst [])) b ∧ b < sC.heap.objs.size := by
    intro b hb
    have hlt := below b hb
    have ne : b ≠ L := by rw [← eL]; exact Nat.ne_of_lt hlt
    exact ⟨⟨(upd_ne ne).trans (fB b hb).1, (fB b hb).2⟩, by rw [hC, Heap.size_push]; exact Nat.lt_succ_of_lt hlt⟩
  have stC : tn 0 sC.heap := T.keep _ _ _ stB fun b _ => up b
  have ID := block_start IC bk nd fC
  -- the error's object
  obtain ⟨g1, g2, g3, g4, g5⟩ := IC.pin p (List.mem_append_left _ pin)
  have pb : PinB X p sC (upd JB L (.lst [])) fp := ⟨g1, g2, fun hm => (List.mem_cons.mp (IC.stkSub p.1 hm)).elim g3 g4, fun hm => (fC p.1 hm).1.2.2.2.2.2 p (List.mem_append_left _ pin) rfl, g5⟩
  have PGb := tgp sC (upd JB L (.lst [])) sC.heap.objs.size (cellsFrom (sC.heap.objs.size + 1) sc.names (cloFrom X.env.cells sc.names [])) fp
  have PTb := tsp sC (upd JB L (.lst [])) sC.heap.objs.size (cellsFrom (sC.heap.objs.size + 1) sc.names (cloFrom X.env.cells sc.names [])) fp
  have PEb := elp sC (upd JB L (.lst [])) sC.heap.objs.size (cellsFrom (sC.heap.objs.size + 1) sc.names (cloFrom X.env.cells sc.names [])) fp
  have nfp : ∀ b ∈ fp, (upd JB L (.lst [])) b = none := fun b hb => (fC b hb).1.1
  show codeAny _ _ (.compStart (.ListComp elt [⟨tg, iter, ifs, 0⟩] sc p1) 0 (.ref it) (.ref L) (compEnvC sc (cellsFrom (sC.heap.objs.size + 1) sc.names (cloFrom X.env.cells sc.names [])) sC.heap.objs.size X.env)) _ { sC with heap := pushCells (sC.heap.push { cls := .type "dict", data := .dict #[] }) sc.names }
  generalize ece : compEnvC sc (cellsFrom (sC.heap.objs.size + 1) sc.names (cloFrom X.env.cells sc.names [])) sC.heap.objs.size X.env = ce at ID PGb PTb PEb ⊢
  have loc : ce.locals = sC.heap.objs.size := by rw [← ece]; rfl
  generalize upd JB L (.lst []) = JC at IC ID PGb PTb PEb w0 nfp fC pb
  generalize eD : ({ sC with heap := pushCells (sC.heap.push { cls := .type "dict", data := .dict #[] }) sc.names } : Shared) = sD at ID ⊢
  have stD : tn 0 sD.heap := T.keep _ _ _ stC fun b _ o e => by subst eD; exact pushCells_keeps _ _ _ _ (Heap.get?_push_of_some _ e)
  have hotY : L2H.HotC (blkH X p sC JC sc ce fp) := ⟨p, hot1, List.mem_singleton.mpr rfl⟩
  have toY : ∀ {ql : List (Addr × Obj)} {ρ : L2.St} {J' : Hp} {t : Shared}, L2.Inv (X.blk sC JC sc ce fp) ql ρ J' t → L2.Inv (blkH X p sC JC sc ce fp) ql ρ J' t := fun I' => Inv.toH pb (Nat.le_of_eq loc.symm) I'
  have fpY : ∀ {ρ : L2.St} {J' : Hp} {t : Shared}, L2.Inv (blkH X p sC JC sc ce fp) [] ρ J' t → (∀ b ∈ fp, J' b = none) → ∀ b ∈ fp, FpOk (blkH X p sC JC sc ce fp) [] J' b := by
    intro ρ J' t I' hn b hb
    refine ⟨hn b hb, (I'.ok.exf b hb).1, I'.ok.exfs b hb, .inl hb, fun x c e => (I'.ok.exf b hb).2 x c e, fun q hq e => ?_⟩
    rcases List.mem_cons.mp (show q ∈ p :: [] from hq) with eq | hq
    · subst eq; exact pb.nfp (e ▸ hb)
    · exact nomatch hq
  refine codeAny_compStart_list ?_ (T.self X.A 0 _ _ _ stD ?_)
  all_goals
    refine compLoop_any (fun n t => ∃ i J', L2.Inv (X.blk sC JC sc ce fp) [] (wipe τ (own.map (·.2))) J' t ∧ tn i t.heap ∧ (∀ b ∈ fp, J' b = none) ∧ W i n J') ?_ m0 ⟨0, JC, ID, stD, nfp, w0⟩
    intro n t ⟨i, J', I', st', n', w'⟩
    rcases turn i n J' w' with ⟨stop, qq⟩ | ⟨go, Nx, hNx, step⟩
    · refine thnF (T.done (blkH X p sC JC sc ce fp) rfl rfl rfl hotY i [] t _ J' (fun _ _ => False) (toY I') (fpY (toY I') n') st' stop) fun r t2 ⟨hr, I2⟩ => ?_
      subst hr
      have I3 := Inv.ofH ID.ok I2
      have I4 : L2.Inv X pl τ J' t2 := IC.call' (ch := fp) I3.os I3.base I3.hok I3.bare fun b hb => ⟨(fC b hb).1.2.2.2.1, (fC b hb).1.2.1, (fC b hb).1.2.2.2.2.1, (fC b hb).1.2.2.2.2.2⟩
      obtain ⟨m, hn, _⟩ := I3.loc
      have hn : t2.heap.Ns sC.heap.objs.size m := by rw [← loc]; exact hn
      have nC : J' sC.heap.objs.size = none := by rw [← loc]; exact I3.free
      obtain ⟨f0, f1, f2, f3, f4, f5⟩ := IC.fpOk (Nat.le_refl _) nC
      exact ⟨m, hn, fun h' sb => ⟨.ref L, J', I4.turned (t' := t2.toks) (fun b o hb e => (sb.2 b hb).trans e) f0 f1 f3 f4 f5, rfl, qq⟩⟩
    · refine thnF (T.item (blkH X p sC JC sc ce fp) rfl rfl rfl hotY i [] t _ J' (fun _ _ => False) (toY I') (fpY (toY I') n') st' go) fun r t2 ⟨u, hr, h2⟩ => ?_
      subst hr
      refine thnF h2 fun _ t3 ⟨x, J3, I3, r3, y3, st3, n3⟩ => ?_
      have I4 := I3.pinned (fpY I3 n3) (T.obj _ _ st3)
      refine thnF (PGb.run _ t3 _ J3 x u _ I4 r3 (step x J3 y3)) fun _ t5 ⟨σ5, J5, I5, hw5, q5⟩ => ?_
      refine thnF (PTb.run _ t5 σ5 J5 _ I5 q5) fun b t6 ⟨J6, I6, q6⟩ => ?_
      have last : ∀ {t' : Shared} {J7 : Hp}, L2.Inv (blkH X p sC JC sc ce fp) ([] ++ pinsAt fp t3.heap) σ5 J7 t' → Nx J7 → ∃ m, m < n ∧ ∃ i J', L2.Inv (X.blk sC JC sc ce fp) [] (wipe τ (own.map (·.2))) J' t' ∧ tn i t'.heap ∧ (∀ b ∈ fp, J' b = none) ∧ W i m J' := by
        intro t' J7 I7 nx
        obtain ⟨m', hm, w7⟩ := hNx J7 nx
        have held : ∀ b ∈ fp, ∀ o, t3.heap.get? b = some o → t'.heap.get? b = some o ∧ J7 b = none := fun b hb o e =>
          have z := I7.pin (b, o) (List.mem_append_right _ (List.mem_append_right _ (mem_pinsAt hb e)))
          ⟨z.1, z.2.1⟩
        refine ⟨m', hm, i + 1, J7, (Inv.ofH ID.ok (I7.unpinned (pins := []))).weak (by rw [← hw5, wipe_length]) (fun j v e => ?_), T.keep _ _ _ st3 fun b hb o e => (held b hb o e).1, fun b hb => ?_, w7⟩
        · rw [← hw5] at e
          exact (wipe_some e).1
        · exact (T.obj _ _ st3 b hb).elim fun o q => (held b hb o q.1).2
      cases b with
      | false => exact last I6 (by simpa only [Bool.false_eq_true, if_false] using q6)
      | true =>
        have q6 := (if_pos (rfl : true = true)).mp q6
        show wpAny _ _ _ _ _ _
        refine thnF (PEb.run _ t6 σ5 J6 _ I6 q6) fun z t7 ⟨yv, J7, I7, r7, acc, hL7, hz7, nx⟩ => ?_
        exact app_ok (X := blkH X p sC JC sc ce fp) I7 hL7 hz7 r7 fun t8 I8 => last I8 nx
end
/-- [elt for tg in range(a) if ..] where an error is handled -/
theorem FH.compR {X : Cx} {N : List Str} {sc : Scope} {fs : Option Scope} {k : Nat} {a elt tg : Expr} {ifs : List Expr} {scope : Scope} {own : List (Str × Nat)} {ta : DTE} {g : DTG} {tt : DTT} {te : DTE} {sl : List Nat} {pos pos2 p0 : Pos}
    (h : FH N sc fs k X) (ok : blkC N sc scope own = true) (hsl : subB sl own = true) (hc : glC sc "range" = true) (hm : X.mg "range" = none) (hp : Pl a) (ha : DE X a ta)
    (hb : ∀ Y, FB N (relS scope sc) (some scope) k Y → Y.prog = X.prog → Y.w = X.w → Y.K = X.K → Y.mg = X.mg → Y.base = X.base → DG Y tg sl g ∧ DTs Y ifs tt ∧ DE Y elt te) :
    DE X (.ListComp elt [⟨tg, .Call (.Name "range" p0) [a] [] pos2, ifs, 0⟩] scope pos) (dComp (own.map (·.2)) (dRng1 ta) g tt te) := fun Wx tk => by
  obtain ⟨t1, p1, f1⟩ := ha Wx tk
  obtain ⟨hg, _⟩ := h.gl hc
  have hi : L2H.PIH X tg (.Call (.Name "range" p0) [a] [] pos2) (iRng1 (tCons t1 tNil)) := L2H.pi_range1H hg hm (pa_cons p1 pa_nil (hp.star _ _)) (hp.star _ _)
  have bk : BlkOk X.N X.env.scope scope own := by rw [h.n, h.sc]; exact blkOk_by ok
  have hs : ∀ x, foldedSetIterable (.Call (.Name "range" p0) [a] [] pos2) X.env x = pure x := fun x => pl_call.fold _ _
  have fb : ∀ (p : Addr × Obj) (s : Shared) (H : Hp) (C : Addr) (cl : List (Str × Addr)) (fp : List Addr), FB N (relS scope sc) (some scope) k (blkH X p s H scope (compEnvC scope cl C X.env) fp) := fun p s H C cl fp =>
    ⟨h.n, h.nd, by show relS scope X.env.scope = relS scope sc; rw [h.sc], fun x hx => hx, h.rm⟩
  have oz : ∀ (p : Addr × Obj) (s : Shared) (H : Hp) (ce : PySem.Env) (fp : List Addr) (z : Z), Okz { X with pn := [p] } z → Okz (blkH X p s H scope ce fp) z := fun p s H ce fp z o => ⟨o.k, o.m, o.op, o.cold, o.hot⟩
  refine ⟨fun σ H Q => ∃ p, (L2H.Hot1 X.A p ∧ p ∈ X.pn) ∧ tLc (iRng1 (tCons t1 tNil)) (tgS (Okz { X with pn := [p] }) sl g) (ttS (Okz { X with pn := [p] }) tt) (teS (Okz { X with pn := [p] }) te) (own.map (·.2)) σ H Q, ⟨fun pins s σ H Q I ⟨p, ⟨q1, q2⟩, hq⟩ => ?_⟩, fun z stk us env σ H Q kk kx okz r t q qx => ?_⟩
  · rw [eval_ListComp]
    exact lc_hot q1 q2 h.nd I hi bk (fun s H C cl fp => (hb _ (fb p s H C cl fp) rfl rfl rfl rfl rfl).1.star (oz p s H _ fp)) (fun s H C cl fp => (hb _ (fb p s H C cl fp) rfl rfl rfl rfl rfl).2.1 _ (oz p s H _ fp))
      (fun s H C cl fp => (hb _ (fb p s H C cl fp) rfl rfl rfl rfl rfl).2.2.star (oz p s H _ fp)) hs hq
  have hpz : ∃ p, (L2H.Hot1 X.A p ∧ p ∈ X.pn) ∧ Okz { X with pn := [p] } z := by
    obtain ⟨p, q1, q2⟩ := h.hot
    by_cases hl : z.lx = true
    · cases e : z.ex with
      | none => exact ⟨p, ⟨q1, q2⟩, okz.k, okz.m, okz.op, okz.cold, fun _ i hi => by rw [e] at hi; cases hi⟩
      | some i =>
        obtain ⟨hh, oe, C, hpn, ho⟩ := okz.hot hl i e
        obtain ⟨vs, hv⟩ := ho.fl
        refine ⟨(i.a, oe), ⟨⟨hh, vs, hv, ho.zn.2.2 vs hv⟩, hpn⟩, okz.k, okz.m, okz.op, okz.cold, fun _ j hj => ?_⟩
        rw [e] at hj
        cases hj
        exact ⟨hh, oe, C, List.mem_singleton.mpr rfl, ho⟩
    · exact ⟨p, ⟨q1, q2⟩, okz.k, okz.m, okz.op, okz.cold, fun c => absurd c hl⟩
  obtain ⟨p, q12, oz2⟩ := hpz
  refine ⟨p, q12, ?_⟩
  refine f1 z stk us env σ H _ _ kx okz r t (fun w env' v H' r1 k1 => ?_) qx
  cases e : peek env' w with
  | none => rw [e] at k1; exact k1.elim
  | some a1 =>
    rw [e] at k1
    match a1, e, k1 with
    | .d (.int n), e, ⟨⟨h1, h2⟩, k2⟩ =>
      have ev : v = .int n := rd_int (r1.look e)
      subst ev
      refine ⟨n, rfl, by omega, by omega, fun Dd hD => ?_⟩
      exact comp_run (fun z h => h.op) (wi := iRng1 (tCons t1 tNil)) (subB_ok hsl) oz2 rfl all_range rfl gen_range r1.pop k2 q Dd hD
end DL

/-! DL25: errors with an attribute of their own. -/
namespace DL
open PySem PySem.Spec
open PyProof.Rows L2
/-- what __init__ of an error class promises: the attributes that it stores -/
abbrev DIn := List W → (List (String × D) → Prop) → Prop
def oexB (K : PySem.W.Frag) (C : Addr) : Bool := (match K.lookup C with
  | some ⟨.type "type", _, .cls cd, sl⟩ => (match cd.mro, sl.toList with
    | .ref C' :: bm, [_, _, _, _, some (.builtin n), _] => C' == C && (n == "ValueError.__new__" && (!cd.hasDel && (cd.hasDict && PySem.HandSPX.refsVE bm)))
    | _, _ => false)
  | _ => false) && (He.eqO (PySem.W.findIn K (.ref C) "__setattr__") (some (some (.builtin "object.__setattr__"))) && (decide (PySem.W.subIn K (.ref C) (.type "BaseException") = some true) && (decide (PySem.W.typeIn K (.ref C) = some (.type "type")) && PySem.W.keepIn K (.ref C))))
theorem oexB_ok {K : PySem.W.Frag} {C : Addr} (h : oexB K C = true) : OexC K C := by
  obtain ⟨h0, h⟩ := band h
  obtain ⟨h1, h⟩ := band h
  obtain ⟨h2, h⟩ := band h
  obtain ⟨h3, h4⟩ := band h
  refine ⟨?_, He.eqO_ok h1, of_decide_eq_true h2, of_decide_eq_true h3, h4⟩
  split at h0
  · rename_i dd cd sl ho
    split at h0
    · rename_i C' bm k0 k1 k2 k3 n k5 hm hs
      simp only [Bool.and_eq_true, beq_iff_eq, Bool.not_eq_true'] at h0
      obtain ⟨rfl, rfl, hdel, hdc, hr⟩ := h0
      obtain ⟨nm, bs, mro, ns, qn, hd, sn, sub, ab, col, del⟩ := cd
      dsimp only at hm hdel hdc
      subst hm hdel hdc
      have hsl : sl = #[k0, k1, k2, k3, some (.builtin "ValueError.__new__"), k5] := by
        obtain ⟨l⟩ := sl
        simp only at hs
        rw [hs]
      subst hsl
      exact ⟨nm, qn, ns, bs, bm, sn, sub, ab, col, dd, k0, k1, k2, k3, k5, ho, hr⟩
    · cases h0
  · cases h0
def spI (K : PySem.W.Frag) (mg : Str → Option Value) (n : Nat) (C : Addr) (S : DIn) : Sp := fun vs H Q _ => vs.length = n + 1 ∧ ∃ (a : Addr) (us : List V) (H1 : Hp) (z : Z) (ws : List W) (k : List (String × D) → Prop), vs = .ref a :: us ∧ H1 a = none ∧ H = upd H1 a (exo a C none) ∧ z.K = K ∧ z.mg = mg ∧ (z.op = false ∧ z.ex = none ∧ z.lx = false) ∧ z.H0 = H1 ∧
  ws.all isArg = true ∧ RepWs z z.G0 H1 ws us [] ∧ Core z z.G0 H1 ∧ S ws k ∧
  ∀ fs d us' G2 H2, H2 a = some (exo a C (some d)) → H2 d = some (exd d us') → H1 d = none → d ≠ a → Core z G2 (upd (L2.del H2 a) d (.xd us')) → RepF z G2 fs us' → fs ≠ [] → k fs → Q .non H2
/-- one attribute -/
def dInit1 (f : String) (te : DTE) : Env → (List (String × D) → Prop) → Prop := fun env k => te env (fun w e1 => useD w e1 fun x _ => k [(f, x)]) kf
section
variable {P : Program} {w : World} {K : PySem.W.Frag} {mg : Str → Option Value} {base : Heap} {x qual : Str} {params : Arguments} {scope : Scope} {dvs : List V} {kws : List (Str × V)} {f : Addr} {fd : FuncData} {N ps : List Str} {k : Nat} {C : Addr} {fld : String} {e : Expr} {te : DTE} {p1 p2 pos : Pos} {S : DIn} {self : Str}
theorem fnok_init (F : FunD K x qual params [.Assign [.Attribute (.Name self p1) (Str.ofString fld) p2] e pos] scope dvs kws f fd) (Sc : FnScope N ps scope) (hps : ∃ r, ps = self :: r) (T : OexC K C) (hno : PySem.W.findIn K (.ref C) (Str.ofString fld) = some none)
    (hv : varC N scope 0 self = true) (hN : ∃ N', N = self :: N') (hsw : ∀ X : Cx, X.env.scope = scope → swapsWith e (some (.Attribute (.Name self p1) (Str.ofString fld) p2)) pos.line X.env = pure false)
    (hw : ∀ X : Cx, X.prog = P → X.w = w → X.K = K → X.mg = mg → X.base = base → FX N scope none k X → DE X e te)
    (hp : ∀ ws k, ws.length + 1 = ps.length → S ws k → dInit1 fld te (none :: (startE N (.hole :: ws)).tail) k) :
    FnOk P w K mg base (L2N.CX P w) (k + 1) f fd ps (spI K mg (ps.length - 1) C S) := by
  obtain ⟨ps', rfl⟩ := hps
  refine FunD.ok F Sc (fun vs H Q E h => by rw [h.1]; simp) fun cdv A outer s0 H vs Q E hr h => ?_
  obtain ⟨l, a, us, H1, z, ws, k1, ev, ha, eH, e1, e2, e3, e4, aw, rw_, c, hs, hq⟩ := h
  subst ev eH
  have fx : FX N scope none k (cxOf (L2N.CX P w) P w K mg base N qual scope f cdv A outer s0 (upd H1 a (exo a C none)) E) := ⟨⟨rfl, Sc.nd, rfl, fun _ _ => rfl, L2H.roomH_of hr⟩, rfl, hr, fun _ => ⟨rfl, rfl⟩⟩
  obtain ⟨ts, pt, fm⟩ := hw _ rfl rfl rfl rfl rfl fx (fun _ _ _ _ => False) takesF
  obtain ⟨N', hN⟩ := hN
  have q := band hv
  have q2 := band q.2
  have q3 := band q2.2
  have pself : PE (cxOf (L2N.CX P w) P w K mg base N qual scope f cdv A outer s0 (upd H1 a (exo a C none)) E) (.Name self p1) (tVar 0) := pe_var (eq_of_beq q.1) (visB_ok q2.1) (bnot q3.1) (bnot q3.2)
  refine ⟨_, pss_cons (ps_ost pself pt (hsw _ rfl)) pss_nil, ?_⟩
  -- the place, the error's object among what stood before
  let zc : Z := { z with H0 := upd H1 a (exo a C none) }
  have lk : z.like zc := ⟨rfl, rfl, fun _ h => h⟩
  have lk2 : zc.like z := ⟨rfl, rfl, fun _ h => h⟩
  have nsa : ∀ s, z.s = some s → s ≠ a := fun s hs e => by
    have := (c.sH s hs).2
    rw [e, e4] at this
    exact this ha
  have c0 : Core zc z.G0 (upd H1 a (exo a C none)) := by
    refine ⟨Same.refl _, (c.upd ha).gh, fun b o e _ => e, fun b h => .inl h, fun s hs => ⟨(c.sH s hs).1, ?_⟩, fun i hi => (by rw [show zc.ex = z.ex from rfl, e3.2.1] at hi; cases hi), fun _ s hs => ?_⟩
    · show upd H1 a _ s ≠ none
      rw [upd_ne (nsa s hs), ← e4]
      exact (c.sH s hs).2
    · obtain ⟨p, g, ff, r, cc, u, xs, h1, h2, h3, h4, h5⟩ := c.sto e3.1 s hs
      exact ⟨p, g, ff, r, cc, u, xs, h1, by rw [upd_ne (nsa s hs)]; exact h2, h3, Rep.like lk h4, h5⟩
  have rw1 : RepWs zc z.G0 (upd H1 a (exo a C none)) ws us [] := RepWs.move lk ⟨fun _ h => h, fun _ h => h, fun _ h => h, fun h => h⟩ (Same.refl _) rw_ fun _ m => by simp at m
  have lws : ws.length = ps'.length := by
    have h1 := repws_len rw_
    have h2 : us.length + 1 = (ps'.length + 1 - 1) + 1 := l
    omega
  have est : ∃ σ', start N (.ref a :: us) = some (V.ref a) :: σ' ∧ RepE zc z.G0 (upd H1 a (exo a C none)) (startE N (.hole :: ws)).tail σ' [] := by
    refine ⟨us.map some ++ List.replicate (N.length - (us.length + 1)) none, rfl, ?_⟩
    show RepE _ _ _ (ws.map some ++ List.replicate (N.length - (ws.length + 1)) none) _ []
    rw [repws_len rw_]
    exact repe_start rw1
  obtain ⟨σ', eσ, re⟩ := est
  have rel : Rel zc [] [] (none :: (startE N (.hole :: ws)).tail) (start N (.ref a :: us)) (upd H1 a (exo a C none)) := by
    rw [eσ]
    exact ⟨z.G0, [], [], ⟨rfl, rfl⟩, ⟨_, σ', rfl, re⟩, List.nodup_nil, fun a m => by simp at m, c0⟩
  refine fm zc [] [] _ _ _ _ _ kf ⟨e1, e2, e3.1, fun _ => e3.2, fun q => (by rw [show zc.lx = z.lx from rfl, e3.2.2] at q; cases q)⟩ rel (hp ws k1 (by rw [lws]; rfl) hs) (fun w1 env1 v H2 r1 k2 => ?_) fun _ _ _ _ _ _ h => h
  obtain ⟨y, env2, r2, hk⟩ := r1.useD k2
  obtain ⟨G, rg⟩ := r2
  have c2 := RelG.core rg
  have ry : Rep zc G y v := rep_top rg
  have ka : H2 a = some (exo a C none) := c2.keep a _ (show upd H1 a _ a = _ from upd_same) fun hs => nsa a hs rfl
  have σ0 : (start N (.ref a :: us))[0]? = some (some (.ref a)) := by rw [eσ]; rfl
  refine ⟨.ref a, σ0, a, C, rfl, T, hno, .inl ⟨ka, fun dx hdx nda => ?_⟩⟩
  have Ga : G a = none := by
    cases eg : G a with
    | none => rfl
    | some o =>
      rcases c2.fresh a (by rw [eg]; exact fun q => nomatch q) with h | h | ⟨h, _⟩
      · have h : z.G0 a ≠ none := h
        exact absurd (c.gh.free ha) h
      · have h : upd H1 a (exo a C none) a = none := h
        rw [upd_same] at h; cases h
      · rw [show zc.op = z.op from rfl, e3.1] at h; cases h
  have Gd : G dx = none := c2.gh.free hdx
  have had : a ≠ dx := Ne.symm nda
  have H1d : H1 dx = none := by
    cases eh : H1 dx with
    | none => rfl
    | some o =>
      have h1 : zc.H0 dx = some o := by show upd H1 a _ dx = _; rw [upd_ne nda]; exact eh
      by_cases hs : z.s = some dx
      · obtain ⟨_, e⟩ := (c2.sto e3.1 dx hs).there
        rw [hdx] at e; cases e
      · have := c2.keep dx o h1 hs
        rw [hdx] at this; cases this
  have at_ : ∀ b, b ≠ a → b ≠ dx → upd (L2.del (upd (upd H2 dx (exd dx [(Str.ofString fld, v)])) a (exo a C (some dx))) a) dx (.xd [(Str.ofString fld, v)]) b = H2 b := fun b h1 h2 => by
    rw [upd_ne h2, L2.del_ne h1, upd_ne h1, upd_ne h2]
  refine hq [(fld, y)] dx [(Str.ofString fld, v)] G _ upd_same (by rw [upd_ne nda, upd_same]) H1d nda ?_ ⟨v, [], rfl, Rep.like lk2 ry, rfl⟩ (fun q => nomatch q) hk
  have nG : ∀ {b o}, G b = some o → b ≠ a ∧ b ≠ dx := fun {b o} e => ⟨fun q => (by rw [q, Ga] at e; cases e), fun q => (by rw [q, Gd] at e; cases e)⟩
  have nS : ∀ s, z.s = some s → s ≠ dx := fun s hs e => by
    obtain ⟨_, e2⟩ := (c2.sto e3.1 s hs).there
    rw [e, hdx] at e2; cases e2
  refine ⟨c2.g0, fun b o e => ?_, fun b o e n => ?_, fun b h => ?_, c.sH, fun i hi => (by rw [e3.2.1] at hi; cases hi), fun _ s hs => ?_⟩
  · rw [at_ b (nG e).1 (nG e).2]
    exact c2.gh b o e
  · have e' : H1 b = some o := by rw [← e4]; exact e
    have ba : b ≠ a := fun q => by rw [q, ha] at e'; cases e'
    have bd : b ≠ dx := fun q => by rw [q, H1d] at e'; cases e'
    rw [at_ b ba bd]
    exact c2.keep b o (show upd H1 a _ b = _ by rw [upd_ne ba]; exact e') n
  · rcases c2.fresh b h with h1 | h1 | ⟨h1, _⟩
    · exact .inl h1
    · have h1 : upd H1 a (exo a C none) b = none := h1
      by_cases ba : b = a
      · rw [ba, upd_same] at h1; cases h1
      · rw [upd_ne ba] at h1
        exact .inr (.inl (by rw [e4]; exact h1))
    · rw [show zc.op = z.op from rfl, e3.1] at h1; cases h1
  · obtain ⟨p, g, ff, r, cc, u, xs, h1, h2, h3, h4, h5⟩ := c2.sto e3.1 s hs
    exact ⟨p, g, ff, r, cc, u, xs, h1, by rw [at_ s (nsa s hs) (nS s hs)]; exact h2, h3, Rep.like lk2 h4, h5⟩
end
/-- an error class with an __init__ of its own -/
def Er1 (P : Program) (w : World) (K : PySem.W.Frag) (mg : Str → Option Value) (base : Heap) (c : String) (n k : Nat) (S : DIn) : Prop := ∃ C fI fd ps, mg (Str.ofString c) = some (.ref C) ∧ ErF K mg c C ∧ OexC K C ∧ PySem.W.findIn K (.ref C) "__init__" = some (some (.ref fI)) ∧ PySem.W.typeIn K (.ref fI) = some (.type "function") ∧
  Binds K fd ps [] ∧ FnOk P w K mg base (L2N.CX P w) k fI fd ps (spI K mg n C S)
theorem Er1.on {X Y : Cx} {c : String} {n k : Nat} {S : DIn} (F : Er1 X.prog X.w X.K X.mg X.base c n k S) (h1 : Y.prog = X.prog) (h2 : Y.w = X.w) (h3 : Y.K = X.K) (h4 : Y.mg = X.mg) (h5 : Y.base = X.base) : Er1 Y.prog Y.w Y.K Y.mg Y.base c n k S := by
  rw [h1, h2, h3, h4, h5]; exact F
theorem Er1.here {P : Program} {w : World} {K : PySem.W.Frag} {mg : Str → Option Value} {base : Heap} {X : Cx} {c : String} {n k : Nat} {S : DIn} (F : Er1 P w K mg base c n k S) (e1 : X.prog = P) (e2 : X.w = w) (e3 : X.K = K) (e4 : X.mg = mg) (e5 : X.base = base) : Er1 X.prog X.w X.K X.mg X.base c n k S := by
  subst e1 e2 e3 e4 e5; exact F
/-- raise c(..) -/
def dRaise (c : String) (n : Nat) (S : DIn) (tr : DTA) : DTS := fun _ kx env => tr env (fun ws e1 => ws.length = n ∧ argsD ws e1 fun ws' e2 => S ws' fun fs => kx ⟨c, fs⟩ e2) kx
section
variable {X : Cx} {N : List Str} {sc : Scope} {fs : Option Scope} {k j n : Nat} {c : String} {S : DIn} {e : Expr} {es : List Expr} {tr : DTA} {p pos rp : Pos}
/-- c(..), its __init__ keeping sp, as an error without context -/
theorem pmkN {x : Str} {C fI : Addr} {fd : FuncData} {ps : List Str} {sp : Sp} {ta : TA} (T : OexC X.K C) (iC : PySem.W.findIn X.K (.ref C) "__init__" = some (some (.ref fI))) (tI : PySem.W.typeIn X.K (.ref fI) = some (.type "function")) (F : FnOk X.prog X.w X.K X.mg X.base (L2N.CX X.prog X.w) j fI fd ps sp)
    (room : Room (j + 1) X.A) (hb : Binds X.K fd ps []) (hg : Gl X x) (hm : X.mg x = some (.ref C)) (ha : PA X (e :: es) ta) (hdb : (x == ("__debug__" : Str)) = false) (hpl : Pls (e :: es)) : L2N.PMk X (.Call (.Name x p) (e :: es) [] pos) (tMkO C sp [] ta) := by
  intro pl s τ J Q I rd
  obtain ⟨nm, q, N, bs, bm, sn, sub, ab, col, dd, k0, k1, k2, k3, k5, hC, hbm⟩ := T.cls
  refine wpAny_Call_Name_kw (ld_glob I hg hm (PySem.W.callWith_K (h₀ := X.base) I.ok.mod.kin T.kC (thn (ha.run pos pl s τ J _ I rd) fun us s1 ⟨vs, J1, I1, rv, small, rd1⟩ => ⟨I1.kIn, ?_⟩) (hpl.hd.star _ _) hpl.tl.any) hdb)
  show wpAny _ _ (call (.ref C) us) _ _ _
  obtain ⟨hp, gs, dr, tk, os⟩ := s1
  generalize ea : hp.objs.size + 1 = a
  have above : hp.objs.size ≤ a := by omega
  have rd2 := rd1 a (I1.hok.fresh above)
  rw [List.append_nil] at rd2
  have keeps : ∀ b o, hp.get? b = some o → ((hp.push (PySem.W.kdv_tup us)).push (PySem.HandSPX.excO C hp.objs.size)).get? b = some o := fun b o h => Heap.get?_push_of_some _ (Heap.get?_push_of_some _ h)
  have made : ((hp.push (PySem.W.kdv_tup us)).push (PySem.HandSPX.excO C hp.objs.size)).get? a = some (PySem.HandSPX.excO C hp.objs.size) := by subst ea; heap_get
  have I2 : L2.Inv X pl τ (upd J1 a (exo a C none)) ⟨(hp.push (PySem.W.kdv_tup us)).push (PySem.HandSPX.excO C hp.objs.size), gs, dr, tk, os⟩ := I1.laid (t' := tk) keeps above (exo_ok made)
  have rv2 : Vals (V.ref a :: vs) (Value.ref a :: us) := .cons rfl rv
  have len : (Value.ref a :: us).length = ps.length := rv2.length.symm.trans (F.len _ _ _ _ rd2)
  have bd := hb _ (Value.ref a :: us) I2.kIn (by rw [List.append_nil]; exact len)
  rw [List.append_nil] at bd
  have fits : us.length ≤ sizeLine := by rw [← Paired.length rv, sizeLine_eq]; omega
  subst ea
  refine wpAny_call (PySem.HandSPX.call_own PySem.F.excBase_ValueError (fun Y => PySem.HandSPX.refsVE_contains Y bm hbm) (I1.kIn _ _ hC) (PySem.W.looks_findIn I1.kIn iC) (fun self => PySem.W.bind_fn I1.kIn self tI) fits ?_)
  refine codeAny_mono (F.run _ X.stack _ _ ⟨Value.ref (hp.objs.size + 1) :: us, []⟩ _ _ _ (fun _ _ _ => False) (room.make C us []) (I2.env0.make C us []) bd rv2 rd2) fun r s' out => ?_
  match r, out with
  | .error _, out => obtain ⟨_, _, _, _, _, _, _, _, _, _, _, _, z⟩ := out; exact z.elim
  | .ok (.ret u), out =>
    obtain ⟨v, J2, os2, bare, un, hok, rr, rfl, d, fl, e1, e2, e3, q2⟩ := out
    obtain ⟨h2, g2, d2, t2, os'⟩ := s'
    obtain ⟨t0, G, K0, kG, ge, hoe, na⟩ := mk_end0 (d2 := d2) (t2 := t2) I1 above keeps un hok os2 bare e1 e2 e3
    exact ⟨rr, hp.objs.size + 1, _, _, ⟨G, g2, d2, t2, os'⟩, _, .ref C, some d, rfl, K0, kG, ge, hoe, ⟨rfl, rfl, fun vs hv => by cases hv; rfl⟩, rfl, rfl, na, rfl, bare, raises_own T.exC T.tyC, q2⟩
theorem FX.raise1 (h : FX N sc fs k X) (F : Er1 X.prog X.w X.K X.mg X.base c n j S) (hj : Nat.ble (j + 1) k = true) (hc : glC sc (Str.ofString c) = true) (hn : Nat.ble n 900 = true) (hp : Pls (e :: es)) (ha : DA X (e :: es) tr) :
    DS X (.Raise (some (.Call (.Name (Str.ofString c) p) (e :: es) [] pos)) none rp) (dRaise c n S tr) := fun Wx tk => by
  obtain ⟨C, fI, fd, ps, gC, er, T, iC, tI, hb, F⟩ := F
  obtain ⟨hg, hdb, _⟩ := h.gl hc
  obtain ⟨ta, pa, fa⟩ := ha Wx tk
  refine ⟨_, L2N.ps_raise h.calm tk (pmkN T iC tI F (h.room.mono (Nat.le_of_ble_eq_true hj)) hb hg gC pa hdb hp), fun z stk vs env σ H D E kx ok na rl ht q => ?_⟩
  refine fa z stk vs env σ H _ _ kx ok rl ht (fun ws env1 us H1 l r1 ⟨hl, u⟩ => ?_) fun x e1 cls d H' rx => q.x x e1 cls d σ H' rx
  refine ⟨by rw [l, hl]; have := Nat.le_of_ble_eq_true hn; omega, fun a ha1 => ?_⟩
  obtain ⟨ws', env', aw, lw, ⟨G, rg⟩, hs⟩ := Rel.args r1 l u
  have cG := RelG.core rg
  obtain ⟨as, bs, rs, re, nd, ow, _⟩ := id rg
  obtain ⟨v1, v2, a1, a2, e1, e2, q1, q2⟩ := rs.split
  obtain ⟨e3, e4⟩ := List.append_inj e1 (by rw [l, q1.len, lw])
  subst e3 e4 e2
  obtain ⟨e5, hargs⟩ := repws_args aw q1
  subst e5
  have rd : RelG z G stk vs env' σ H1 := ⟨a2, bs, q2, re, nd, ow, cG⟩
  obtain ⟨ze, zl⟩ := ok.cold h.calm
  rw [List.append_nil]
  refine ⟨by rw [List.length_cons, l, hl], a, us, H1, z.inn G H1, ws', _, rfl, ha1, rfl, ok.k, ok.m, ⟨ok.op, ze, zl⟩, rfl, aw, hargs H1, cG.inn ok.op, hs, fun fl d us' G2 H2 x1 x2 x3 x4 x5 x6 x7 hk => ⟨rfl, d, us', x1, x2, x3, ?_⟩⟩
  obtain ⟨as3, bs3, rs3, re3, nd3, ow3, c3⟩ := RelG.after rd ok.op x5 x5.g0 x5.gh (x5.fresh_inn ok.op)
  refine q.x ⟨c, fl⟩ env' (.ref C) (some d) σ _ ⟨G2, C, ⟨as3, bs3, rs3, re3, nd3, fun b m => (ow3 b m).1, c3⟩, ⟨ok.m ▸ gC, ok.k ▸ ok.m ▸ er⟩, rfl, ?_⟩ hk
  cases fl with
  | nil => exact absurd rfl x7
  | cons f1 fl => exact ⟨d, us', rfl, upd_same, RepF.like Z.inn_like x6⟩
end
end DL

/-! DL26: longer chains of comparisons; bit_length; an owned item moved out of its list. -/
namespace DL
open PySem PySem.Spec
open PyProof.Rows L2
/-! a < b <= c < .., all ints -/
def dLinks : List (CmpOp × DTE) → Int → Env → (Bool → Env → Prop) → XC → Prop
  | [], _, env, k, _ => k true env
  | (op, tb) :: r, i, env, k, kx => tb env (fun wb e1 => match peek e1 wb with
    | some (.d (.int j)) => sCmp op (.d (.int i)) (.d (.int j)) e1 fun w e2 => kBl (fun c e3 => if c = true then dLinks r j e3 k kx else k false e3) w e2
    | _ => False) kx
/-- the chain as a value -/
def dChN (ta : DTE) (l : List (CmpOp × DTE)) : DTE := fun env k kx => ta env (fun wa e1 => match peek e1 wa with
  | some (.d (.int i)) => dLinks l i e1 (fun b e2 => k (.d (.bl b)) e2) kx
  | _ => False) kx
/-- the chain as a test -/
def dChT (ta : DTE) (l : List (CmpOp × DTE)) : DTT := fun env k kx => ta env (fun wa e1 => match peek e1 wa with
  | some (.d (.int i)) => dLinks l i e1 k kx
  | _ => False) kx
def tLinks (K : PySem.W.Frag) : List (CmpOp × TE) → V → St → Hp → (Bool → Hp → Prop) → Prop
  | [], _, _, H, Q => Q true H
  | (op, tb) :: r, x, σ, H, Q => tb σ H fun y H1 => rCmp K op x y H1 fun v H2 => ∃ c, v = .bl c ∧ if c = true then tLinks K r y σ H2 Q else Q false H2
inductive PLinks (X : Cx) : List CmpOp → List Expr → List (CmpOp × TE) → Prop where
  | nil : PLinks X [] [] []
  | cons {op : CmpOp} {e : Expr} {te : TE} {ops : List CmpOp} {es : List Expr} {l : List (CmpOp × TE)} (h : PE X e te) (r : PLinks X ops es l) : PLinks X (op :: ops) (e :: es) ((op, te) :: l)
inductive DLinks (X : Cx) : List CmpOp → List Expr → List (CmpOp × DTE) → Prop where
  | nil : DLinks X [] [] []
  | cons {op : CmpOp} {e : Expr} {te : DTE} {ops : List CmpOp} {es : List Expr} {l : List (CmpOp × DTE)} (h : DE X e te) (r : DLinks X ops es l) : DLinks X (op :: ops) (e :: es) ((op, te) :: l)
section
variable {X : Cx} {a : Expr} {ta : DTE} {pos : Pos} {N : List Str} {sc : Scope} {fs : Option Scope} {k : Nat} {o : Expr} {to : DTE} {apos : Pos}
theorem run_links (hu : X.A.units + 64 < cLine) {pins : List (Addr × Obj)} {σ : L2.St} : ∀ {ops : List CmpOp} {es : List Expr} {l : List (CmpOp × TE)} {op : CmpOp} {e : Expr} {te : TE} {x : V} {u : Value} {H : Hp} {s : Shared} {Q : VK}, PE X e te → PLinks X ops es l → L2.Inv X pins σ H s → RelV x u →
    tLinks X.K ((op, te) :: l) x σ H (fun b H => Q (.bl b) H) → wpAny (model X.prog X.w) X.A (compareChain pos u (op :: ops) (eval e X.env :: evalEach es X.env)) (EP X pins σ Q) X.xe s
  | [], _, _, op, e, te, x, u, H, s, Q, pe, .nil, I, rx, h => by
    refine chain_last (thn (pe.run pins s σ H _ I h) fun v s1 ⟨y, H1, I1, r1, q1⟩ => ?_)
    refine thn (op_cmp hu op pins s1 σ H1 x y u v _ I1 rx r1 q1) fun c s2 ⟨z, H2, I2, r2, b, e2, q2⟩ => ?_
    subst e2
    refine ⟨.bl b, H2, I2, r2, ?_⟩
    cases b with
    | true => exact q2
    | false => exact q2
  | op2 :: ops, _, _, op, e, te, x, u, H, s, Q, pe, .cons pe2 r, I, rx, h => by
    refine chain_link (thn (pe.run pins s σ H _ I h) fun v s1 ⟨y, H1, I1, r1, q1⟩ => thn (op_cmp hu op pins s1 σ H1 x y u v _ I1 rx r1 q1) fun c s2 ⟨z, H2, I2, r2, b, e2, q2⟩ => ?_)
    subst e2
    cases r2
    refine wpAny_truthy_bool ?_
    cases b with
    | false => exact ite_ff ⟨.bl false, H2, I2, rfl, q2⟩
    | true => exact ite_tt (run_links hu pe2 r I2 r1 q2)
theorem run_linksT (hu : X.A.units + 64 < cLine) {pins : List (Addr × Obj)} {σ : L2.St} : ∀ {ops : List CmpOp} {es : List Expr} {l : List (CmpOp × TE)} {op : CmpOp} {e : Expr} {te : TE} {x : V} {u : Value} {H : Hp} {s : Shared} {Q : Bool → Hp → Prop}, PE X e te → PLinks X ops es l → L2.Inv X pins σ H s → RelV x u →
    tLinks X.K ((op, te) :: l) x σ H Q → wpAny (model X.prog X.w) X.A (testChain pos u (op :: ops) (eval e X.env :: evalEach es X.env)) (TP X pins σ Q) X.xe s
  | [], _, _, op, e, te, x, u, H, s, Q, pe, .nil, I, rx, h => by
    refine test_last (thn (pe.run pins s σ H _ I h) fun v s1 ⟨y, H1, I1, r1, q1⟩ => ?_)
    refine thn (op_cmp hu op pins s1 σ H1 x y u v _ I1 rx r1 q1) fun c s2 ⟨z, H2, I2, r2, b, e2, q2⟩ => ?_
    subst e2
    cases r2
    refine wpAny_truthy_bool ⟨H2, I2, ?_⟩
    cases b with
    | true => exact q2
    | false => exact q2
  | op2 :: ops, _, _, op, e, te, x, u, H, s, Q, pe, .cons pe2 r, I, rx, h => by
    refine test_link (thn (pe.run pins s σ H _ I h) fun v s1 ⟨y, H1, I1, r1, q1⟩ => thn (op_cmp hu op pins s1 σ H1 x y u v _ I1 rx r1 q1) fun c s2 ⟨z, H2, I2, r2, b, e2, q2⟩ => ?_)
    subst e2
    cases r2
    refine wpAny_truthy_bool ?_
    cases b with
    | false => exact ite_ff ⟨H2, I2, q2⟩
    | true => exact ite_tt (run_linksT hu pe2 r I2 r1 q2)
theorem links_run {ops : List CmpOp} {es : List Expr} {l : List (CmpOp × DTE)} (h : DLinks X ops es l) {Wx : WX} (tk : L2N.Takes X Wx) : ∃ m, PLinks X ops es m ∧ m.length = l.length ∧ ∀ z stk vs env σ H i (Q : Bool → Hp → Prop) (kk : Bool → Env → Prop) (kx : XC), Okz X z → Rel z stk vs env σ H → dLinks l i env kk kx →
    (∀ b env' H', Rel z stk vs env' σ H' → kk b env' → Q b H') → (∀ x env' cls d H', RelX z stk vs x cls d env' σ H' → kx x env' → Wx cls d σ H') → tLinks X.K m (.int i) σ H Q := by
  induction h with
  | nil => exact ⟨[], .nil, rfl, fun z stk vs env σ H i Q kk kx ok r t q qx => q true env H r t⟩
  | @cons op e te ops es l h r ih =>
    obtain ⟨t1, p1, f1⟩ := h Wx tk
    obtain ⟨m, p2, hl, f2⟩ := ih
    refine ⟨(op, t1) :: m, .cons p1 p2, congrArg Nat.succ hl, fun z stk vs env σ H i Q kk kx ok r t q qx => ?_⟩
    refine f1 z stk vs env σ H _ _ kx ok r t (fun wb e1 v H1 r1 k1 => ?_) qx
    split at k1
    · rename_i j hj
      have ev := rd_int (r1.look hj)
      subst ev
      refine opd_cmp op z stk vs e1 σ H1 _ _ (.d (.int i)) (.d (.int j)) (.int i) (.int j) ok (r1.pop.pushInt.pushInt) k1 fun w e2 v2 H2 r2 k2 => ?_
      obtain ⟨c, rfl, k3⟩ := kBl_elim k2
      refine ⟨c, rd_bl (r2.look rfl), ?_⟩
      cases c with
      | true => exact f2 z stk vs e2 σ H2 j Q kk kx ok r2.pop k3 q qx
      | false => exact q false e2 H2 r2.pop k3
    · exact k1.elim
theorem de_chN {op1 op2 : CmpOp} {ops : List CmpOp} {e1 e2 : Expr} {es : List Expr} {l : List (CmpOp × DTE)} (hu : X.A.units + 64 < cLine) (hm : lastMarks (op1 :: op2 :: ops) (e1 :: e2 :: es) = false) (ha : DE X a ta) (hl : DLinks X (op1 :: op2 :: ops) (e1 :: e2 :: es) l) :
    DE X (.Compare a (op1 :: op2 :: ops) (e1 :: e2 :: es) pos) (dChN ta l) := fun Wx tk => by
  obtain ⟨t0, p0, f0⟩ := ha Wx tk
  obtain ⟨m, pm, hlen, fm⟩ := links_run hl tk
  cases pm with
  | @cons _ _ te1 _ _ m1 pe1 pm1 =>
    refine ⟨fun σ H Q => t0 σ H fun x H1 => tLinks X.K ((op1, te1) :: m1) x σ H1 fun b H => Q (.bl b) H, ⟨fun pins s σ H Q I h => ?_⟩, fun z stk vs env σ H Q kk kx ok r t q qx => ?_⟩
    · exact Compare_chain (thn (p0.run pins s σ H _ I h) fun v s1 ⟨x, H1, I1, r1, q1⟩ => run_links hu pe1 pm1 I1 r1 q1) hm
    · refine f0 z stk vs env σ H _ _ kx ok r t (fun w env1 v H1 r1 k1 => ?_) qx
      split at k1
      · rename_i i hi
        have ev := rd_int (r1.look hi)
        subst ev
        exact fm z stk vs env1 σ H1 i _ _ kx ok r1.pop k1 (fun b e H2 r2 k2 => q _ _ _ _ r2.pushBl k2) qx
      · exact k1.elim
theorem dt_chN {op1 op2 : CmpOp} {ops : List CmpOp} {e1 e2 : Expr} {es : List Expr} {l : List (CmpOp × DTE)} (hu : X.A.units + 64 < cLine) (hm : lastMarks (op1 :: op2 :: ops) (e1 :: e2 :: es) = false) (ha : DE X a ta) (hl : DLinks X (op1 :: op2 :: ops) (e1 :: e2 :: es) l) :
    DT X (.Compare a (op1 :: op2 :: ops) (e1 :: e2 :: es) pos) (dChT ta l) := fun Wx tk => by
  obtain ⟨t0, p0, f0⟩ := ha Wx tk
  obtain ⟨m, pm, hlen, fm⟩ := links_run hl tk
  cases pm with
  | @cons _ _ te1 _ _ m1 pe1 pm1 =>
    refine ⟨fun σ H Q => t0 σ H fun x H1 => tLinks X.K ((op1, te1) :: m1) x σ H1 Q, ⟨fun pins s σ H Q I h => ?_⟩, fun z stk vs env σ H Q kk kx ok r t q qx => ?_⟩
    · exact isTrue_chain (thn (p0.run pins s σ H _ I h) fun v s1 ⟨x, H1, I1, r1, q1⟩ => run_linksT hu pe1 pm1 I1 r1 q1) hm
    · refine f0 z stk vs env σ H _ _ kx ok r t (fun w env1 v H1 r1 k1 => ?_) qx
      split at k1
      · rename_i i hi
        have ev := rd_int (r1.look hi)
        subst ev
        exact fm z stk vs env1 σ H1 i Q kk kx ok r1.pop k1 q qx
      · exact k1.elim
theorem FB.chN {op1 op2 : CmpOp} {ops : List CmpOp} {e1 e2 : Expr} {es : List Expr} {l : List (CmpOp × DTE)} (h : FB N sc fs k X) (hm : lastMarks (op1 :: op2 :: ops) (e1 :: e2 :: es) = false) (ha : DE X a ta) (hl : DLinks X (op1 :: op2 :: ops) (e1 :: e2 :: es) l) : DE X (.Compare a (op1 :: op2 :: ops) (e1 :: e2 :: es) pos) (dChN ta l) := de_chN h.un hm ha hl
theorem FB.tchN {op1 op2 : CmpOp} {ops : List CmpOp} {e1 e2 : Expr} {es : List Expr} {l : List (CmpOp × DTE)} (h : FB N sc fs k X) (hm : lastMarks (op1 :: op2 :: ops) (e1 :: e2 :: es) = false) (ha : DE X a ta) (hl : DLinks X (op1 :: op2 :: ops) (e1 :: e2 :: es) l) : DT X (.Compare a (op1 :: op2 :: ops) (e1 :: e2 :: es) pos) (dChT ta l) := dt_chN h.un hm ha hl
/-! n.bit_length() -/
def dBits (to : DTE) : DTE := fun env k kx => to env (fun w e1 => match peek e1 w with
  | some (.d (.int i)) => k (.d (.int (Builtin.Int.intBits i : Nat))) e1
  | _ => False) kx
theorem FB.bits (h : FB N sc fs k X) (hb : Ab o) (hc : bmC apos pos [] = true) (ho : DE X o to) : DE X (.Call (.Attribute o "bit_length" apos) [] [] pos) (dBits to) := fun Wx tk => by
  obtain ⟨t, p, f⟩ := ho Wx tk
  refine ⟨_, pe_bits p (hb _ _) (band hc).1, fun z stk vs env σ H Q kk kx ok r t q qx => f z stk vs env σ H _ _ kx ok r t (fun w env1 v H1 r1 k1 => ?_) qx⟩
  split at k1
  · rename_i i hi
    exact ⟨i, rd_int (r1.look hi), q _ _ _ _ r1.pop.pushInt k1⟩
  · exact k1.elim
/-! x[j], the list in slot i given up, its item kept -/
def dIxMv (i j : Nat) : DTE := fun env k _ => match env[i]? with
  | some (some (.ol ws)) => match ws[j]? with
    | some w => k w (env.set i none)
    | none => False
  | _ => False
theorem repws_pick {z : Z} {G H : Hp} : ∀ {ws : List W} {us : List V} {as : List Addr} {j : Nat} {w : W}, RepWs z G H ws us as → ws[j]? = some w → ∃ v bs, us[j]? = some v ∧ RepW z G H w v bs ∧ List.Sublist bs as
  | [], _, _, _, _, _, e => by simp at e
  | w0 :: _, _, _, 0, w, ⟨v, vs, a1, a2, q, q2, r, r2⟩, e => by
    have e : w0 = w := by simpa using e
    subst e q q2
    exact ⟨v, a1, rfl, r, List.sublist_append_left _ _⟩
  | _ :: ws, _, _, j + 1, w, ⟨v, vs, a1, a2, q, q2, r, r2⟩, e => by
    subst q q2
    obtain ⟨u, bs, h1, h2, h3⟩ := repws_pick (j := j) r2 (by simpa using e)
    exact ⟨u, bs, by simpa using h1, h2, h3.trans (List.sublist_append_right _ _)⟩
theorem FB.ixMv {i : Nat} {x : Str} {j : Nat} {kk : Nat} {p1 p2 : Pos} (h : FB N sc fs k X) (hc : varC N sc i x = true) : DE X (.Subscript (.Name x p1) (.Constant (.int (j : Int)) kk p2) pos) (dIxMv i j) := fun Wx tk => by
  have q := band hc
  have q2 := band q.2
  have q3 := band q2.2
  have pv : PE X (.Name x p1) (tVar i) := pe_var (by rw [h.n]; exact eq_of_beq q.1) (by rw [h.sc]; exact visB_ok q2.1) (bnot q3.1) (bnot q3.2)
  refine ⟨_, pe_ix ix_seq pv (pe_int (i := (j : Int)) (j := kk) (pos := p2)) pl_con.ix, fun z stk vs env σ H Q k kx ok r t qq qx => ?_⟩
  unfold dIxMv at t
  split at t
  · rename_i ws h1
    split at t
    · rename_i w h2
      obtain ⟨G, as, bs, rs, re, nd, ow, c⟩ := r
      obtain ⟨v, b1, bi, b2, e1, e2, r1, _, _, gone⟩ := re.at_ h1
      obtain ⟨a, us, as', e3, e4, ha, rw_⟩ := r1
      subst e2 e3 e4
      obtain ⟨u, cs, h3, r1, h5⟩ := repws_pick rw_ h2
      have hat : atI us (j : Int) = some u := atI_nat (j := j) h3
      refine ⟨.ref a, e1, .inl ⟨a, us, (j : Int), u, rfl, rfl, SqL.of ha, hat, ?_⟩⟩
      have sub : List.Sublist (cs ++ (as ++ (b1 ++ b2))) ((a :: as') ++ (as ++ (b1 ++ b2))) := List.Sublist.append_right (h5.trans (List.sublist_cons_self _ _)) _
      have pm : List.Perm ((a :: as') ++ (as ++ (b1 ++ b2))) (as ++ (b1 ++ ((a :: as') ++ b2))) := by
        have := List.perm_append_comm_assoc (a :: as') (as ++ b1) b2
        simpa [List.append_assoc] using this
      have nd' : (as ++ (b1 ++ ((a :: as') ++ b2))).Nodup := nd
      refine qq w (env.set i none) u H ⟨G, cs ++ as, b1 ++ b2, ⟨u, _, cs, as, rfl, rfl, .of r1, rs⟩, gone G H (Same.refl _) fun _ _ => rfl, ?_, fun b m => ow b ?_, c⟩ t
      · rw [List.append_assoc]
        exact nodup_sub sub (pm.nodup_iff.mpr nd')
      · rw [List.append_assoc] at m
        exact pm.subset (sub.subset m)
    · exact t.elim
  · exact t.elim
end
end DL

/-! DL27: the head's facts about error classes. -/
namespace DL
open PySem PySem.Spec
open PyProof.Rows L2
theorem b_ValueError : bootBuiltins "ValueError" = some (.type "ValueError") := PyProof.Rows.Boot.«ValueError»
theorem pl_last3 {o1 o2 o3 : CmpOp} {a b c : Expr} (h : Pl c) : lastMarks [o1, o2, o3] [a, b, c] = false := pl_last (op := o2) (b := b) h
theorem pl_last4 {o1 o2 o3 o4 : CmpOp} {a b c d : Expr} (h : Pl d) : lastMarks [o1, o2, o3, o4] [a, b, c, d] = false := pl_last (op := o3) (b := c) h
theorem pl_last5 {o1 o2 o3 o4 o5 : CmpOp} {a b c d e : Expr} (h : Pl e) : lastMarks [o1, o2, o3, o4, o5] [a, b, c, d, e] = false := pl_last (op := o4) (b := d) h
def hookB (n : Nat) (fa : List He.Fa) (fn : List He.DefD) (ex : PySem.W.Frag → Bool) : PySem.W.Hook where
  α := He.AlD × Bool
  obs := fun s => (He.obsDG n fa fn s.heap.get?, ex (He.frG s.heap.get? (He.asD s.heap.get? n)))
  val := fun _ => (He.valD fn, true)
  says := fun _ h => ∃ K : PySem.W.Frag, K.In h ∧ He.SaysD fa fn K ∧ ex K = true
  of := fun _ s e => ⟨He.frG s.heap.get? (He.asD s.heap.get? n), He.frG_in, (congrArg (fun z : He.AlD × Bool => z.1) e : _), (congrArg (fun z : He.AlD × Bool => z.2) e : _)⟩
  keeps := fun _ _ _ ⟨K, hK, c⟩ k => ⟨K, PySem.W.Frag.In.keeps hK k, c⟩
def obsB (n : Nat) (fa : List He.Fa) (fn : List He.DefD) (ex : PySem.W.Frag → Bool) (g : Addr → Option Obj) : He.AlD × Bool := (He.obsDG n fa fn g, ex (He.frG g (He.asD g n)))
theorem obsB_eq {n : Nat} {fa : List He.Fa} {fn : List He.DefD} {ex : PySem.W.Frag → Bool} {g : Addr → Option Obj} {s : Shared} (h : ∀ a, g a = s.heap.get? a) : obsB n fa fn ex g = (hookB n fa fn ex).obs s := by
  have e : g = s.heap.get? := funext h
  rw [e] <;> rfl
/-! checks -/
def pairB (K : PySem.W.Frag) (c y : String) : Bool := match PySem.W.nsIn K mainGlobals (Str.ofString y) with
  | some none => true
  | some (some (.ref Y)) => decide (PySem.W.kitOne K (.ref (He.ga K (Str.ofString c))) (.ref Y) = some (subX c y)) && decide (PySem.W.exmOne K (.ref (He.ga K (Str.ofString c))) (.ref Y) = some (subX c y))
  | _ => false
def oneB (K : PySem.W.Frag) (c : String) : List Bool :=
  [He.eqO (PySem.W.nsIn K mainGlobals (Str.ofString c)) (some (some (.ref (He.ga K (Str.ofString c))))), (PySem.W.clsIn K (He.ga K (Str.ofString c))).isSome,
   He.eqO (PySem.W.findIn K (.ref (He.ga K (Str.ofString c))) "__getattribute__") (some (some (.builtin "BaseException.__getattribute__"))), He.eqO (PySem.W.findIn K (.ref (He.ga K (Str.ofString c))) "__getattr__") (some none),
   decide (PySem.W.subIn K (.ref (He.ga K (Str.ofString c))) (.type "BaseException") = some true), He.eqO (PySem.W.findIn K (.ref (He.ga K (Str.ofString c))) "__class__") (some (some (.builtin "object.__class__"))),
   decide (PySem.W.specialIn K (.builtin "object.__class__") "__get__" = some (some (.builtin "getset_descriptor.__get__"))), decide (PySem.W.takesIn K (.builtin "object.__class__") = some true), decide (PySem.W.mroIn K (He.ga K (Str.ofString c)) (.type "object") = some true),
   PySem.W.hasDictIn K (He.ga K (Str.ofString c)), decide (PySem.W.typeIn K (.ref (He.ga K (Str.ofString c))) = some (.type "type")), PySem.W.keepIn K (.ref (He.ga K (Str.ofString c))),
   XFLD.all fun f => He.eqO (PySem.W.findIn K (.ref (He.ga K (Str.ofString c))) (Str.ofString f)) (some none), decide (PySem.W.kitOne K (.ref (He.ga K (Str.ofString c))) (.type "ValueError") = some true), ERR.all (pairB K c)]
def xcB (K : PySem.W.Frag) (c : String) : Bool := (oneB K c).all id
section
variable {K : PySem.W.Frag} {h : Heap} {mg : Str → Option Value} {c : String}
theorem xcB_ok (X : K.In h) (G : h.Ns mainGlobals mg) (q : xcB K c = true) : mg (Str.ofString c) = some (.ref (He.ga K (Str.ofString c))) ∧ ErF K mg c (He.ga K (Str.ofString c)) := by
  have at_ : ∀ b ∈ oneB K c, b = true := List.all_eq_true.mp q
  have g : ∀ (i : Nat) {b : Bool}, (oneB K c)[i]? = some b → b = true := fun i b e => at_ b (List.mem_of_getElem? e)
  have prs := List.all_eq_true.mp (g 14 rfl)
  have pr : ∀ y ∈ ERR, ∀ Y, mg (Str.ofString y) = some (.ref Y) → PySem.W.kitOne K (.ref (He.ga K (Str.ofString c))) (.ref Y) = some (subX c y) ∧ PySem.W.exmOne K (.ref (He.ga K (Str.ofString c))) (.ref Y) = some (subX c y) := fun y hy Y hY => by
    have h1 := prs y hy
    unfold pairB at h1
    split at h1
    · rename_i e
      have := PySem.W.mg_none_of X G e
      rw [hY] at this; cases this
    · rename_i Y' e
      have := PySem.W.mg_of X G e
      rw [hY] at this
      cases this
      obtain ⟨a, b⟩ := band h1
      exact ⟨of_decide_eq_true a, of_decide_eq_true b⟩
    · cases h1
  exact ⟨PySem.W.mg_of X G (He.eqO_ok (g 0 rfl)), g 1 rfl, He.eqO_ok (g 2 rfl), He.eqO_ok (g 3 rfl), of_decide_eq_true (g 4 rfl), He.eqO_ok (g 5 rfl), of_decide_eq_true (g 6 rfl), of_decide_eq_true (g 7 rfl), of_decide_eq_true (g 8 rfl), g 9 rfl, of_decide_eq_true (g 10 rfl), g 11 rfl,
    fun f hf => He.eqO_ok (List.all_eq_true.mp (g 12 rfl) f hf), of_decide_eq_true (g 13 rfl), fun y hy Y e => (pr y hy Y e).1, fun y hy Y e => (pr y hy Y e).2⟩
def er0B (K : PySem.W.Frag) (c : String) : Bool := xcB K c && PySem.W.excIn K (He.ga K (Str.ofString c)) He.veBase "ValueError.__new__"
theorem er0B_ok (X : K.In h) (G : h.Ns mainGlobals mg) (q : er0B K c = true) : Er0 K mg c :=
  ⟨_, (xcB_ok X G (band q).1).1, (xcB_ok X G (band q).1).2, (band q).2⟩
/-- the address of the class's own __init__ -/
def inA (K : PySem.W.Frag) (c : String) : Addr := He.fAd K (Str.ofString c, some "__init__")
def er1B (K : PySem.W.Frag) (c : String) : Bool := xcB K c && (oexB K (He.ga K (Str.ofString c)) && (He.eqO (PySem.W.findIn K (.ref (He.ga K (Str.ofString c))) "__init__") (some (some (.ref (inA K c)))) && decide (PySem.W.typeIn K (.ref (inA K c)) = some (.type "function"))))
theorem er1B_ok {P : Program} {w : World} {base : Heap} {fd : FuncData} {ps : List Str} {n k : Nat} {S : DIn} (X : K.In h) (G : h.Ns mainGlobals mg) (q : er1B K c = true) (hb : Binds K fd ps [])
    (F : OexC K (He.ga K (Str.ofString c)) → ErF K mg c (He.ga K (Str.ofString c)) → FnOk P w K mg base (L2N.CX P w) k (inA K c) fd ps (spI K mg n (He.ga K (Str.ofString c)) S)) : Er1 P w K mg base c n k S := by
  obtain ⟨q1, q⟩ := band q
  obtain ⟨q2, q⟩ := band q
  obtain ⟨q3, q4⟩ := band q
  have x := xcB_ok X G q1
  exact ⟨_, inA K c, fd, ps, x.1, x.2, oexB_ok q2, He.eqO_ok q3, of_decide_eq_true q4, hb, F (oexB_ok q2) x.2⟩
end
end DL
namespace DL
open PySem L2
theorem Er0.on {X Y : L2.Cx} {c : String} (F : Er0 X.K X.mg c) (h1 : Y.prog = X.prog) (h2 : Y.w = X.w) (h3 : Y.K = X.K) (h4 : Y.mg = X.mg) (h5 : Y.base = X.base) : Er0 Y.K Y.mg c := by
  rw [h3, h4]; exact F
theorem Er0.here {K : PySem.W.Frag} {mg : Str → Option Value} {X : L2.Cx} {c : String} (F : Er0 K mg c) (e3 : X.K = K) (e4 : X.mg = mg) : Er0 X.K X.mg c := by
  subst e3 e4; exact F
end DL

/-! PL1: plain lemmas for all laws. -/
namespace DL
open PySem
theorem szl {n : Nat} (h : n ≤ 16777216) : n ≤ sizeLine := by rw [sizeLine_eq]; exact h
theorem szl' {n : Nat} (h : n < 16777216) : n < sizeLine := by rw [sizeLine_eq]; exact h
theorem mulR {i j : Int} (h1 : -(2 ^ 64) < j) (h2 : j < 2 ^ 64) : MulFit i j := IntMulOk.of_right (intBits_le_64 h1 h2)
theorem mulL {i j : Int} (h1 : -(2 ^ 64) < i) (h2 : i < 2 ^ 64) : MulFit i j := IntMulOk.of_left (intBits_le_64 h1 h2)
theorem map_d {α : Type} (f : α → D) (xs : List α) : (xs.map f).map W.d = xs.map fun x => W.d (f x) := by rw [List.map_map]; rfl
section
variable {α : Type} (a b c d e f : α)
theorem a6_0 : L2.atI [a, b, c, d, e, f] 0 = some a := rfl
theorem a6_1 : L2.atI [a, b, c, d, e, f] 1 = some b := rfl
theorem a6_2 : L2.atI [a, b, c, d, e, f] 2 = some c := rfl
theorem a6_3 : L2.atI [a, b, c, d, e, f] 3 = some d := rfl
theorem a6_4 : L2.atI [a, b, c, d, e, f] 4 = some e := rfl
theorem a6_5 : L2.atI [a, b, c, d, e, f] 5 = some f := rfl
theorem a1_0 : L2.atI [a] 0 = some a := rfl
theorem a2_0 : L2.atI [a, b] 0 = some a := rfl
theorem a2_1 : L2.atI [a, b] 1 = some b := rfl
theorem a3_0 : L2.atI [a, b, c] 0 = some a := rfl
theorem a3_1 : L2.atI [a, b, c] 1 = some b := rfl
theorem a3_2 : L2.atI [a, b, c] 2 = some c := rfl
theorem a4_0 : L2.atI [a, b, c, d] 0 = some a := rfl
theorem a4_1 : L2.atI [a, b, c, d] 1 = some b := rfl
theorem a4_2 : L2.atI [a, b, c, d] 2 = some c := rfl
theorem a4_3 : L2.atI [a, b, c, d] 3 = some d := rfl
end
theorem i6_1 : L2.ixN (0 + 1 + 1 + 1 + 1 + 1 + 1) 1 = some 1 := rfl
theorem i6_2 : L2.ixN (0 + 1 + 1 + 1 + 1 + 1 + 1) 2 = some 2 := rfl
theorem i6_3 : L2.ixN (0 + 1 + 1 + 1 + 1 + 1 + 1) 3 = some 3 := rfl
theorem i6_4 : L2.ixN (0 + 1 + 1 + 1 + 1 + 1 + 1) 4 = some 4 := rfl
theorem i6_5 : L2.ixN (0 + 1 + 1 + 1 + 1 + 1 + 1) 5 = some 5 := rfl
theorem at_nat {α : Type} {xs : List α} {j : Nat} (h : j < xs.length) : L2.atI xs (j : Int) = some xs[j] := L2.atI_nat (List.getElem?_eq_getElem h)
theorem kb_ll : L2.kitB "list" "list" = some true := by decide +kernel
theorem kb_lt : L2.kitB "list" "tuple" = some false := by decide +kernel
theorem kb_ld : L2.kitB "list" "dict" = some false := by decide +kernel
theorem kb_tl : L2.kitB "tuple" "list" = some false := by decide +kernel
theorem kb_tt : L2.kitB "tuple" "tuple" = some true := by decide +kernel
theorem kb_td : L2.kitB "tuple" "dict" = some false := by decide +kernel
theorem kb_nl : L2.kitB "NoneType" "list" = some false := by decide +kernel
theorem kb_nt : L2.kitB "NoneType" "tuple" = some false := by decide +kernel
theorem kb_nd : L2.kitB "NoneType" "dict" = some false := by decide +kernel
theorem kb_nb : L2.kitB "NoneType" "bool" = some false := by decide +kernel
theorem kb_ni : L2.kitB "NoneType" "int" = some false := by decide +kernel
theorem kb_ns : L2.kitB "NoneType" "str" = some false := by decide +kernel
theorem kb_bl : L2.kitB "bool" "list" = some false := by decide +kernel
theorem kb_bt : L2.kitB "bool" "tuple" = some false := by decide +kernel
theorem kb_bd : L2.kitB "bool" "dict" = some false := by decide +kernel
theorem kb_bb : L2.kitB "bool" "bool" = some true := by decide +kernel
theorem kb_bi : L2.kitB "bool" "int" = some true := by decide +kernel
theorem kb_bs : L2.kitB "bool" "str" = some false := by decide +kernel
theorem kb_il : L2.kitB "int" "list" = some false := by decide +kernel
theorem kb_it : L2.kitB "int" "tuple" = some false := by decide +kernel
theorem kb_id : L2.kitB "int" "dict" = some false := by decide +kernel
theorem kb_ib : L2.kitB "int" "bool" = some false := by decide +kernel
theorem kb_ii : L2.kitB "int" "int" = some true := by decide +kernel
theorem kb_is : L2.kitB "int" "str" = some false := by decide +kernel
theorem kb_sl : L2.kitB "str" "list" = some false := by decide +kernel
theorem kb_st : L2.kitB "str" "tuple" = some false := by decide +kernel
theorem kb_sd : L2.kitB "str" "dict" = some false := by decide +kernel
theorem kb_sb : L2.kitB "str" "bool" = some false := by decide +kernel
theorem kb_si : L2.kitB "str" "int" = some false := by decide +kernel
theorem kb_ss : L2.kitB "str" "str" = some true := by decide +kernel
theorem kb_tb : L2.kitB "tuple" "bool" = some false := by decide +kernel
theorem kb_ti : L2.kitB "tuple" "int" = some false := by decide +kernel
theorem kb_ts : L2.kitB "tuple" "str" = some false := by decide +kernel
theorem kb_lb : L2.kitB "list" "bool" = some false := by decide +kernel
theorem kb_li : L2.kitB "list" "int" = some false := by decide +kernel
theorem kb_ls : L2.kitB "list" "str" = some false := by decide +kernel
theorem useW_i {w : W} {env : DL.Env} {k : W → DL.Env → Prop} (h : nosto w = true) (hk : k w env) : useW w env k := by
  cases w <;> first | exact ⟨h, hk⟩ | cases h
theorem call_i {n : Nat} {s : DSp} {tr : DTA} {env : DL.Env} {k : DK} {kx : XC} (h : tr env (fun ws e1 => ws.length = n ∧ argsD ws e1 fun ws' e2 => s ws' (fun w => nosto w = true ∧ k w (if clear w = true then e1 else e2)) fun x => kx x e2) kx) : dCall n s tr env k kx := h
theorem useWs_i {w : W} {ws : List W} {env : DL.Env} {k : List W → DL.Env → Prop} (h : nosto w = true) (hk : useWs ws env fun ws' e => k (w :: ws') e) : useWs (w :: ws) env k := useW_i h hk
theorem useWs_n {env : DL.Env} {k : List W → DL.Env → Prop} (hk : k [] env) : useWs [] env k := hk
theorem useWs_at {i : Nat} {x : D} {ws : List W} {env : DL.Env} {k : List W → DL.Env → Prop} (h : env[i]? = some (some (.d x))) (hk : useWs ws env fun ws' e => k (.d x :: ws') e) : useWs (.at_ i :: ws) env k := by
  show useD (.at_ i) env _
  unfold useD
  simp only [h]
  exact hk
theorem argD_i {w : W} {env : DL.Env} {k : W → DL.Env → Prop} (h : nosto w = true) (hk : k (.d (fz w)) env) : argD w env k := by
  cases w <;> first | exact hk | exact ⟨h, hk⟩ | cases h
theorem fzs_map2 {α : Type} {f : α → W} {g : α → D} (h : ∀ a, fz (f a) = g a) : ∀ {xs : List α}, fzs (xs.map f) = xs.map g
  | [] => rfl
  | x :: xs => by show fz _ :: fzs _ = _; rw [fzs_map2 h, h]; rfl
theorem nostos_map2 {α : Type} {f : α → W} (h : ∀ a, nosto (f a) = true) : ∀ {xs : List α}, nostos (xs.map f) = true
  | [] => rfl
  | x :: xs => by show (nosto _ && nostos _) = true; rw [nostos_map2 h, h]; rfl
theorem clears_map2 {α : Type} {f : α → W} (h : ∀ a, clear (f a) = true) : ∀ {xs : List α}, clears (xs.map f) = true
  | [] => rfl
  | x :: xs => by show (clear _ && clears _) = true; rw [clears_map2 h, h]; rfl
theorem okqs_map {α : Type} {n : Nat} {f : α → D} : ∀ {xs : List α}, (∀ x ∈ xs, okq n (f x) = true) → okqs n (xs.map f) = true
  | [], _ => rfl
  | x :: xs, h => by
    show (okq n (f x) && okqs n (xs.map f)) = true
    rw [h x List.mem_cons_self, okqs_map fun y m => h y (List.mem_cons_of_mem _ m)]; rfl
/-! data flattened -/
mutual
def szD : D → Nat
  | .lst xs => 1 + szs xs
  | .klst xs => 1 + szs xs
  | .tup xs => 1 + szs xs
  | _ => 1
def szs : List D → Nat
  | [] => 0
  | x :: xs => szD x + szs xs
end
mutual
/-- what _law_plain reads -/
def pln : D → Bool
  | .non => true
  | .bl _ => true
  | .int i => true
  | .str s => s.all (· < 128)
  | .lst xs => plns xs
  | .klst xs => plns xs
  | .tup xs => plns xs
  | _ => false
def plns : List D → Bool
  | [] => true
  | x :: xs => pln x && plns xs
end
def part1 : D → List Nat × D
  | .lst xs => ([108], .int xs.length)
  | .klst xs => ([108], .int xs.length)
  | .tup xs => ([116], .int xs.length)
  | .non => ([98], .str [78, 111, 110, 101])
  | .bl b => ([98], .str (if b then [84, 114, 117, 101] else [70, 97, 108, 115, 101]))
  | .int i => ([105], .int i)
  | .str s => ([115], .str s)
  | _ => ([63], .non)
def kids : D → List D
  | .lst xs => xs
  | .klst xs => xs
  | .tup xs => xs
  | _ => []
def plain : Nat → List D → List (List Nat × D) → List (List Nat × D)
  | 0, _, out => out
  | n + 1, st, out => match st.getLast? with
    | none => out
    | some x => plain n (st.dropLast ++ kids x) (out ++ [part1 x])
def partW (p : List Nat × D) : W := .ot [.d (.str p.1), .d p.2]
theorem szs_app : ∀ (a b : List D), szs (a ++ b) = szs a + szs b
  | [], b => by show szs b = 0 + szs b; omega
  | x :: a, b => by show szD x + szs (a ++ b) = szD x + szs a + szs b; rw [szs_app]; omega
theorem plns_app : ∀ (a b : List D), plns (a ++ b) = (plns a && plns b)
  | [], b => rfl
  | x :: a, b => by show (pln x && plns (a ++ b)) = (pln x && plns a && plns b); rw [plns_app, Bool.and_assoc]
theorem szD_pos (x : D) : 1 ≤ szD x := by cases x <;> simp only [szD] <;> omega
theorem szs_len : ∀ a : List D, a.length ≤ szs a
  | [] => Nat.le_refl _
  | x :: a => by have := szD_pos x; have := szs_len a; show a.length + 1 ≤ szD x + szs a; omega
theorem kids_sz (x : D) : szs (kids x) + 1 ≤ szD x := by cases x <;> simp only [kids, szD, szs] <;> omega
theorem kids_pln {x : D} (h : pln x = true) : plns (kids x) = true := by cases x <;> first | exact h | rfl
theorem getLast_snoc {α : Type} (l : List α) (x : α) : (l ++ [x]).getLast? = some x := by simp
theorem at01 (b : Bool) : L2.atI [108, 116] (if b then 1 else 0) = some (if b then 116 else 108) := by cases b <;> rfl
/-- the items of a range are ints -/
theorem range_int {lo : Int} {n : Nat} {w : W} (h : w ∈ rangeW lo n) : ∃ j : Nat, j < n ∧ w = .d (.int (lo + j)) := by
  obtain ⟨j, hj, e⟩ := List.mem_map.mp h
  exact ⟨j, List.mem_range.mp hj, e.symm⟩
theorem rangeW_zero {lo : Int} : rangeW lo 0 = [] := rfl
theorem rangeW_succ {lo : Int} {n : Nat} : rangeW lo (n + 1) = .d (.int lo) :: rangeW (lo + 1) n := by
  unfold rangeW
  rw [List.range_succ_eq_map, List.map_cons, List.map_map]
  congr 1
  · simp
  · refine List.map_congr_left fun i _ => ?_
    show W.d (.int (lo + ((i + 1 : Nat) : Int))) = W.d (.int (lo + 1 + i))
    congr 2; omega
theorem subX_ce (c : String) : subX c "CornerError" = true := by unfold subX; simp
def codesOf (s : String) : List Nat := s.toList.map Char.toNat
theorem split_map {s t : List Nat} {l : List (List Nat)} (h : (Txt.split (toS s) (toS t)).map (fun y => y.cps.toList) = l) : ((Txt.split (toS s) (toS t)).map fun y => D.str y.cps.toList).map W.d = l.map fun x => W.d (.str x) := by
  subst h; simp [List.map_map]
/-- [names[k] for k in range(n) if flags[k]] -/
theorem compL_pick {vs : List Nat} {g : DTG} {tt : DTT} {te : DTE} {env : DL.Env} (fl : List Bool) (nm : List (List Nat)) (hl : fl.length = nm.length) (hs : ∀ (j : Nat) (b : Bool) (s : List Nat), fl[j]? = some b → nm[j]? = some s → ∀ acc K, acc.length < sizeLine → K (if b = true then acc ++ [.d (.str s)] else acc) env → compStep vs g tt te (.d (.int (j : Nat))) acc env K) :
    ∀ (n j : Nat) (acc : List W) (k : List W → DL.Env → Prop), j + n = fl.length → acc.length + n ≤ sizeLine → k (acc ++ (((fl.zip nm).drop j).filter (·.1)).map fun p => .d (.str p.2)) env → compL vs g tt te (rangeW (j : Nat) n) acc env k
  | 0, j, acc, k, e, _, q => by
    rw [List.drop_eq_nil_of_le (by rw [List.length_zip, ← hl]; omega)] at q
    rw [rangeW_zero]
    show k acc env
    simpa using q
  | n + 1, j, acc, k, e, hz, q => by
    rw [rangeW_succ]
    have hj : j < fl.length := by omega
    have hj2 : j < nm.length := by omega
    refine hs j fl[j] nm[j] (List.getElem?_eq_getElem hj) (List.getElem?_eq_getElem hj2) acc (fun acc' e' => compL vs g tt te (rangeW ((j : Int) + 1) n) acc' e' k) (by omega) ?_
    rw [List.drop_eq_getElem_cons (by rw [List.length_zip]; omega), List.filter_cons] at q
    have ez : (fl.zip nm)[j]'(by rw [List.length_zip]; omega) = (fl[j], nm[j]) := by simp
    rw [ez] at q
    have c1 : ((j : Int) + 1) = ((j + 1 : Nat) : Int) := by omega
    cases hb : fl[j] with
    | true =>
      rw [hb] at q
      simp only [if_true]
      rw [c1]
      refine compL_pick fl nm hl hs n (j + 1) _ k (by omega) (by simp; omega) ?_
      simpa using q
    | false =>
      rw [hb] at q
      simp only [Bool.false_eq_true, if_false]
      rw [c1]
      refine compL_pick fl nm hl hs n (j + 1) _ k (by omega) (by omega) ?_
      simpa using q
theorem zip_filter (f : String → Bool) (g : String → List Nat) : ∀ l : List String, (((l.map f).zip (l.map g)).filter (·.1)).map (fun p => W.d (.str p.2)) = (l.filter f).map fun y => W.d (.str (g y))
  | [] => rfl
  | x :: l => by
    rw [List.map_cons, List.map_cons, List.zip_cons_cons, List.filter_cons, List.filter_cons]
    cases f x with
    | true => simp only [if_true, List.map_cons, zip_filter f g l]
    | false => simp only [Bool.false_eq_true, if_false, zip_filter f g l]
def errNames : List String := ["BadLine", "Strange", "TooMany", "BadTable", "NotAssociative", "BadKind", "BadLot", "NotClosed", "NotShown", "NoLine", "BadShape", "BadNumber", "BadCount", "BadBlock", "BadLetter", "NotKept", "Gap", "Bare", "NothingLeft", "BadCut", "BadOrder", "BadTree", "Knotted", "BadHead", "NotOne", "Waiting", "Differs", "BadPaper", "NothingBack"]
theorem filter_names : ∀ c ∈ errNames, (errNames.filter (subX c)) = [c] := by decide +kernel
/-- a loop over a range, by an invariant of the number at hand -/
theorem forR {g : DTG} {body : DTS} {kx : XC} {E : DEnds} {hi : Int} (Iv : Int → Env → Prop) (hs : ∀ i env K, i < hi → Iv i env → (∀ e', Iv (i + 1) e' → K e') → g (.d (.int i)) env (fun e1 => body { E with nx := K, ct := K, bk := E.nx } kx e1) kx) :
    ∀ {n : Nat} {lo : Int} {env : Env}, lo + n = hi → Iv lo env → (∀ e, Iv hi e → E.nx e) → forL g body kx (rangeW lo n) E env
  | 0, lo, env, e, h, q => by
    rw [rangeW_zero]
    exact q env (by rw [← show lo = hi by omega]; exact h)
  | n + 1, lo, env, e, h, q => by
    rw [rangeW_succ]
    exact hs lo env (fun e' => forL g body kx (rangeW (lo + 1) n) E e') (by omega) h fun e' h' => forR Iv hs (by omega) h' q
end DL

namespace Lk25
open PySem PySem.Spec
open PyProof.Rows L2 DL
def S_copied : DSp := fun _ _ _ => False
/-! levels -/
def S_levels : DSp := fun ws k kx => ∃ c : Int, ws = [.d (.int c)] ∧ (if 1 ≤ c ∧ c ≤ 16 then k (.d (.int (Builtin.Int.intBits (c - 1) : Nat))) else kx ⟨"BadNumber", []⟩)

/-! aligned_spans -/
/-- the size of the aligned span at st, grown from s -/
def gs : Nat → Int → Int → Int → Int
  | 0, _, _, s => s
  | n + 1, st, hi, s => if st + 2 * s ≤ hi ∧ Builtin.bitAnd st (2 * s - 1) = 0 then gs n st hi (2 * s) else s
def spans : Nat → Int → Int → List (Int × Int)
  | 0, _, _ => []
  | n + 1, st, hi => if st < hi then (st, st + gs 5 st hi 1) :: spans n (st + gs 5 st hi 1) hi else []
def spanW (p : Int × Int) : W := .ot [.d (.int p.1), .d (.int p.2)]
def spanD (p : Int × Int) : D := .tup [.int p.1, .int p.2]
theorem fz_span (p) : fz (spanW p) = spanD p := rfl
theorem nosto_span (p) : nosto (spanW p) = true := rfl
theorem clear_span (p) : clear (spanW p) = true := rfl
def S_aligned_spans : DSp := fun ws k kx => ∃ c lo hi : Int, ws = [.d (.int c), .d (.int lo), .d (.int hi)] ∧ (if 0 ≤ lo ∧ lo < hi ∧ hi ≤ c ∧ c ≤ 16 then k (.ol ((spans 16 lo hi).map spanW)) else kx ⟨"BadNumber", []⟩)

/-! _law_store -/
def S__law_store : DSp := S_store

/-! _law_take -/
def S__law_take : DSp := S_take

/-! _law_whole -/
def S__law_whole : DSp := fun ws k _ => ∃ i : Int, ws = [.d (.int i)] ∧ k (.d (.bl true))

/-! _law_parts -/
def S__law_parts : DSp := fun ws k _ => ∃ x xs, ws = [.d x] ∧ rowOf x = some xs ∧ k (.ol (xs.map .d))

/-! _law_marking -/
def markD : D → Nat
  | .dct _ => 100
  | .lst _ => 108
  | .klst _ => 108
  | .tup _ => 116
  | .bl _ => 98
  | .non => 98
  | .int _ => 105
  | .str _ => 115
  | _ => 63
def S__law_marking : DSp := fun ws k _ => ∃ x, ws = [.d x] ∧ pln x = true ∧ k (.d (.str [markD x]))

/-! _law_classes -/
def S__law_classes : DSp := fun ws k _ => ∃ c fs, ws = [.exn c fs] ∧ c ∈ errNames ∧ k (.ol [.d (.str (codesOf c))])

/-! _law_due -/
def tRef : List Nat := [114, 101, 102, 117, 115, 101, 100]
def tAns : List Nat := [97, 110, 115, 119, 101, 114]
def tBadNumber : List Nat := [66, 97, 100, 78, 117, 109, 98, 101, 114]
def S__law_due : DSp := fun ws k _ => ∃ s, ws = [.d (.str s), .d (.lst [])] ∧ k (.ol [.d (.str tRef), .d (.bl true), .ol [.d (.str s)], .d (.lst [])])

/-! _law_between -/
def S__law_between : DSp := fun ws k _ => ∃ lo hi : Int, ws = [.sto, .d (.int lo), .d (.int hi)] ∧ lo ≤ hi ∧ hi - lo < 1000000 ∧ ∀ i, lo ≤ i → i ≤ hi → k (.d (.int i))

/-! _law_wild -/
def S__law_wild : DSp := fun ws k _ => ws = [.sto] ∧ ∀ i : Int, k (.d (.int i))

/-! _law_same -/
def S__law_same : DSp := fun ws k _ => ∃ x, ws = [.d x, .d x] ∧ pln x = true ∧ szD x ≤ 39999 ∧ k (.d (.bl true))

/-! _law_caught -/
def caughtW (c : String) : W := .ol [.d (.str tRef), .d (.bl true), .ol [.d (.str (codesOf c))], .d (.lst [])]
def S__law_caught : DSp := fun ws k _ => ∃ c fs, ws = [.exn c fs] ∧ c ∈ errNames ∧ k (caughtW c)

/-! _law_right -/
def chkL (lo hi : Int) : Int → List (Int × Int) → Bool
  | pl, [] => decide (pl = hi)
  | pl, (a, b) :: r => decide (a = pl) && decide (b ≤ hi) && [1, 2, 4, 8, 16].contains (b - a) && decide (pl % (b - a) = 0) && !(decide (lo ≤ pl - pl % (2 * (b - a))) && decide (pl - pl % (2 * (b - a)) + 2 * (b - a) ≤ hi)) && chkL lo hi b r
def S__law_right : DSp := fun ws k _ => ∃ (ps : List (Int × Int)) (lo hi : Int), ws = [.d (.lst [.str tAns, .lst (ps.map spanD)]), .d (.int lo), .d (.int hi)] ∧ chkL lo hi lo ps = true ∧ k (.d (.bl true))

/-! _law_answer -/
def S__law_answer : DSp := fun ws k _ => ∃ c lo hi : Int, ws = [.d (.int c), .d (.int lo), .d (.int hi)] ∧ (if 0 ≤ lo ∧ lo < hi ∧ hi ≤ c ∧ c ≤ 16 then k (.ol [.d (.str tAns), .ol ((spans 16 lo hi).map spanW)]) else k (caughtW "BadNumber"))

/-! _law_levels -/
def S__law_levels : DSp := fun ws k _ => ∃ c : Int, ws = [.d (.int c)] ∧ (if 1 ≤ c ∧ c ≤ 16 then k (.ol [.d (.str tAns), .d (.int (Builtin.Int.intBits (c - 1) : Nat))]) else k (caughtW "BadNumber"))

/-! _law_triple -/
def S__law_triple : DSp := fun ws k _ => ∃ c : Int, ws = [.sto, .d (.int c)] ∧ 1 ≤ c ∧ c ≤ 16 ∧ ∀ a b d : Int, k (.ot [.d (.int a), .d (.int b), .d (.int d)])

/-! law -/
def S_law : DSp := fun _ _ _ => False

end Lk25

namespace Lk25
open PySem PySem.Spec
open PyProof.Rows L2 DL
theorem mgn {X Y : Cx} {x : Str} (e : Y.mg = X.mg) (h : X.mg x = none) : Y.mg x = none := by rw [e]; exact h
theorem mgs {X Y : Cx} {x s : Str} (e : Y.mg = X.mg) (h : ∃ t, X.mg x = some (.str s t)) : ∃ t, Y.mg x = some (.str s t) := by rw [e]; exact h
theorem mgc {X Y : Cx} {x : Str} (e : Y.mg = X.mg) (h : ∃ C, X.mg x = some (.ref C)) : ∃ C, Y.mg x = some (.ref C) := by rw [e]; exact h
theorem mgi {X Y : Cx} {x : Str} {s : Int} (e : Y.mg = X.mg) (h : ∃ t, X.mg x = some (.int s t)) : ∃ t, Y.mg x = some (.int s t) := by rw [e]; exact h
def top (i : Nat) : Stmt := PySem.Challenge.pw_corneralike_k25_aligned_spans.main.body.getD i (.Pass ⟨0, 0, 0, 0⟩)

/-! copied -/
def N_copied : List Str := ["value", "item"]
abbrev st_copied : Stmt := top 1
abbrev ps_copied : List Str := ["value"]
theorem sc_copied : FnScope N_copied ps_copied (defScope st_copied) := ⟨rfl, rfl, rfl, by decide +kernel, rfl, by decide +kernel, by decide +kernel⟩
def t_copied_0_1 : DTS := dSeq (dRet (dVar 0)) dNext
def t_copied_1_0 : DTS := dSeq (dRet (dComp [1] (dRow (dVar 0)) (gN 1) dYes (dCall 1 S_copied (dCons (dVar 1) dNil)))) dNext
def t_copied_0_0 : DTS := dSeq (dIf (dTru (dCl (s2 kIsi) (dCons (dVar 0) (dCons (dC (.ty "list")) dNil)))) t_copied_1_0 dNext) t_copied_0_1
abbrev t_copied : DTS := t_copied_0_0
theorem se_copied (w0 : W) : startE N_copied [w0] = [some w0, none] := rfl
theorem w_copied {X : Cx} {k : Nat} (h : FX N_copied (defScope st_copied) none k X) (ho : PassesOwn (model X.prog X.w) X.A X.env X.xe) {l_copied : Nat} (c_copied : DFn X.prog X.w X.K X.mg X.base "copied" ps_copied l_copied S_copied) (j_copied : Nat.ble l_copied k = true) (m_list : X.mg "list" = none) (m_isinstance : X.mg "isinstance" = none) : DSs X (defBody st_copied) (t_copied) :=
    (dss_cons (ds_if (dt_tru tr_call (h.isi (by decide +kernel) m_isinstance (pls_cons pl_name (pls_cons pl_name pls_nil)) (da_cons pl_name (h.var (i := 0) (by decide +kernel)) (da_cons pl_name (h.ty (by decide +kernel) m_list b_list) da_nil)))) (dss_cons (ds_ret (h.comp (own := [("item", 1)]) (sl := [1]) (by decide +kernel) (by decide +kernel) pl_name (di_row (h.var (i := 0) (by decide +kernel))) (fun _ h1 e0_1 e0_2 e0_3 e0_4 e0_5 => ⟨(h1.tg (by decide +kernel)), dts_nil, (h1.call (c_copied.on e0_1 e0_2 e0_3 e0_4 e0_5) j_copied (by decide +kernel) (pls_cons pl_name pls_nil) (da_cons pl_name (h1.var (i := 1) (by decide +kernel)) da_nil))⟩)))
      dss_nil) dss_nil)
      (dss_cons (ds_ret (h.var (i := 0) (by decide +kernel)))
      dss_nil))
/-! levels -/
def N_levels : List Str := ["count"]
abbrev st_levels : Stmt := top 34
abbrev ps_levels : List Str := ["count"]
theorem sc_levels : FnScope N_levels ps_levels (defScope st_levels) := ⟨rfl, rfl, rfl, by decide +kernel, rfl, by decide +kernel, by decide +kernel⟩
def t_levels_0_1 : DTS := dSeq (dRet (dBits (dOp (sInt (fun _ _ => True) fun i j => i - j) (dVar 0) (dC (.int 1))))) dNext
def t_levels_1_0 : DTS := dSeq (dRaise0 "BadNumber") dNext
def t_levels_0_0 : DTS := dSeq (dIf (dNotT (dBl (dChn .LtE .LtE (dC (.int 1)) (dVar 0) (dC (.int 16))))) t_levels_1_0 dNext) t_levels_0_1
abbrev t_levels : DTS := t_levels_0_0
theorem se_levels (w0 : W) : startE N_levels [w0] = [some w0] := rfl
theorem w_levels {X : Cx} {k : Nat} (h : FX N_levels (defScope st_levels) none k X) (ho : PassesOwn (model X.prog X.w) X.A X.env X.xe) (x_BadNumber : Er0 X.K X.mg "BadNumber") (g_MOST_LINES : ∃ t, X.mg "MOST_LINES" = some (.int 16 t)) : DSs X (defBody st_levels) (t_levels) :=
    (dss_cons (ds_if (dt_not (h.tchn .LtE .LtE pl_name de_int (h.var (i := 0) (by decide +kernel)) (h.gint (by decide +kernel) g_MOST_LINES))) (dss_cons (h.raise0 x_BadNumber (by decide +kernel))
      dss_nil) dss_nil)
      (dss_cons (ds_ret (h.bits ab_bin (by decide +kernel) (de_sub (h.var (i := 0) (by decide +kernel)) de_int)))
      dss_nil))
/-! aligned_spans -/
def N_aligned_spans : List Str := ["count", "lo", "hi", "spans", "start", "size"]
abbrev st_aligned_spans : Stmt := top 35
abbrev ps_aligned_spans : List Str := ["count", "lo", "hi"]
theorem sc_aligned_spans : FnScope N_aligned_spans ps_aligned_spans (defScope st_aligned_spans) := ⟨rfl, rfl, rfl, by decide +kernel, rfl, by decide +kernel, by decide +kernel⟩
def t_aligned_spans_0_4 : DTS := dSeq (dRet (dVar 3)) dNext
def t_aligned_spans_1_3 : DTS := dSeq (dAsg (dOp sAdd (dVar 4) (dVar 5)) (gN 4)) dNext
def t_aligned_spans_1_2 : DTS := dSeq (dDrop (dBm "list" mApp (dVar 3) (dCons (dTup (dCons (dVar 4) (dCons (dOp sAdd (dVar 4) (dVar 5)) dNil))) dNil))) t_aligned_spans_1_3
def t_aligned_spans_2_0 : DTS := dSeq (dAsg (dOp sMul (dC (.int 2)) (dVar 5)) (gN 5)) dNext
def t_aligned_spans_1_1 : DTS := dSeq (dWhile (dAndT (dBl (dOp (sCmp .LtE) (dOp sAdd (dVar 4) (dOp sMul (dC (.int 2)) (dVar 5))) (dVar 2))) (dBl (dOp (sCmp .Eq) (dOp (sInt (fun _ _ => True) Builtin.bitAnd) (dVar 4) (dOp (sInt (fun _ _ => True) fun i j => i - j) (dOp sMul (dC (.int 2)) (dVar 5)) (dC (.int 1)))) (dC (.int 0))))) t_aligned_spans_2_0) t_aligned_spans_1_2
def t_aligned_spans_1_0 : DTS := dSeq (dAsg (dC (.int 1)) (gN 5)) t_aligned_spans_1_1
def t_aligned_spans_0_3 : DTS := dSeq (dWhile (dBl (dOp (sCmp .Lt) (dVar 4) (dVar 2))) t_aligned_spans_1_0) t_aligned_spans_0_4
def t_aligned_spans_0_2 : DTS := dSeq (dAsg (dVar 1) (gN 4)) t_aligned_spans_0_3
def t_aligned_spans_0_1 : DTS := dSeq (dAsg (dLst dNil) (gN 3)) t_aligned_spans_0_2
def t_aligned_spans_3_0 : DTS := dSeq (dRaise0 "BadNumber") dNext
def t_aligned_spans_0_0 : DTS := dSeq (dIf (dNotT (dChT (dC (.int 0)) [(.LtE, (dVar 1)), (.Lt, (dVar 2)), (.LtE, (dVar 0)), (.LtE, (dC (.int 16)))])) t_aligned_spans_3_0 dNext) t_aligned_spans_0_1
abbrev t_aligned_spans : DTS := t_aligned_spans_0_0
theorem se_aligned_spans (w0 w1 w2 : W) : startE N_aligned_spans [w0, w1, w2] = [some w0, some w1, some w2, none, none, none] := rfl
theorem w_aligned_spans {X : Cx} {k : Nat} (h : FX N_aligned_spans (defScope st_aligned_spans) none k X) (ho : PassesOwn (model X.prog X.w) X.A X.env X.xe) (x_BadNumber : Er0 X.K X.mg "BadNumber") (g_MOST_LINES : ∃ t, X.mg "MOST_LINES" = some (.int 16 t)) : DSs X (defBody st_aligned_spans) (t_aligned_spans) :=
    (dss_cons (ds_if (dt_not (h.tchN (pl_last4 pl_name) de_int (.cons (h.var (i := 1) (by decide +kernel)) (.cons (h.var (i := 2) (by decide +kernel)) (.cons (h.var (i := 0) (by decide +kernel)) (.cons (h.gint (by decide +kernel) g_MOST_LINES) .nil)))))) (dss_cons (h.raise0 x_BadNumber (by decide +kernel))
      dss_nil) dss_nil)
      (dss_cons (ds_asg rfl rfl tg_name (de_lst da_nil) (h.tg (by decide +kernel)))
      (dss_cons (ds_asg rfl rfl tg_name (h.var (i := 1) (by decide +kernel)) (h.tg (by decide +kernel)))
      (dss_cons (ds_while ho (h.tcmp .Lt pl_name (h.var (i := 4) (by decide +kernel)) (h.var (i := 2) (by decide +kernel))) (dss_cons (ds_asg rfl rfl tg_name de_int (h.tg (by decide +kernel)))
      (dss_cons (ds_while ho (DW.dt (dw_and (h.tcmp .LtE pl_name (de_add (h.var (i := 4) (by decide +kernel)) (de_mul de_int (h.var (i := 5) (by decide +kernel)))) (h.var (i := 2) (by decide +kernel))) (dw_and1 (h.tcmp .Eq pl_con (de_band (h.var (i := 4) (by decide +kernel)) (de_sub (de_mul de_int (h.var (i := 5) (by decide +kernel))) de_int)) de_int)))) (dss_cons (ds_asg rfl rfl tg_name (de_mul de_int (h.var (i := 5) (by decide +kernel))) (h.tg (by decide +kernel)))
      dss_nil))
      (dss_cons (ds_expr rfl (h.app ab_name (by decide +kernel) (pls_cons pl_tup pls_nil) (h.var (i := 3) (by decide +kernel)) (da_cons pl_tup (de_tup (da_cons pl_name (h.var (i := 4) (by decide +kernel)) (da_cons pl_bin (de_add (h.var (i := 4) (by decide +kernel)) (h.var (i := 5) (by decide +kernel))) da_nil))) da_nil)))
      (dss_cons (ds_asg rfl rfl tg_name (de_add (h.var (i := 4) (by decide +kernel)) (h.var (i := 5) (by decide +kernel))) (h.tg (by decide +kernel)))
      dss_nil)))))
      (dss_cons (ds_ret (h.var (i := 3) (by decide +kernel)))
      dss_nil)))))
/-! _law_store -/
def N__law_store : List Str := ["script", "great", "cells", "cell"]
abbrev st__law_store : Stmt := top 37
abbrev ps__law_store : List Str := ["script"]
theorem sc__law_store : FnScope N__law_store ps__law_store (defScope st__law_store) := ⟨rfl, rfl, rfl, by decide +kernel, rfl, by decide +kernel, by decide +kernel⟩
def t__law_store_0_3 : DTS := dSeq (dRet (dLst (dCons (dVar 2) (dCons (dC (.int 0)) (dCons (dC (.int 0)) (dCons (dC (.int 0)) (dCons (dOp sAdd (dC (.int 20261)) (dOp sMul (dC (.int 7)) (dCl (s1 kLenN) (dCons (dVar 2) dNil)))) (dCons (dC (.int 0)) dNil)))))))) dNext
def t__law_store_2_0 : DTS := dSeq (dDrop (dBm "list" mApp (dVar 2) (dCons (dLst (dCons (dC (.int 1)) (dCons (dOp (sInt (fun _ j => 0 < j) fun i j => i % j) (dCl (s1 kAbs) (dCons (dVar 3) dNil)) (dVar 1)) dNil))) dNil))) dNext
def t__law_store_3_0 : DTS := dSeq (dDrop (dBm "list" mApp (dVar 2) (dCons (dLst (dCons (dC (.int 0)) (dCons (dOp (sInt (fun _ j => 0 < j) fun i j => i % j) (dCl (s1 kInt) (dCons (dVar 3) dNil)) (dC (.int 2147483647))) dNil))) dNil))) dNext
def t__law_store_1_0 : DTS := dSeq (dIf (dOrT (dBl (dOp (sCmp .GtE) (dVar 3) (dOp (sInt PowOk fun i j => i ^ j.toNat) (dC (.int 10)) (dC (.int 18))))) (dBl (dOp (sCmp .LtE) (dVar 3) (dOp (sInt (fun _ _ => True) fun i j => i - j) (dC (.int 0)) (dOp (sInt PowOk fun i j => i ^ j.toNat) (dC (.int 10)) (dC (.int 18))))))) t__law_store_2_0 t__law_store_3_0) dNext
def t__law_store_0_2 : DTS := dSeq (dFor (dRow (dVar 0)) (gN 3) t__law_store_1_0) t__law_store_0_3
def t__law_store_0_1 : DTS := dSeq (dAsg (dLst dNil) (gN 2)) t__law_store_0_2
def t__law_store_0_0 : DTS := dSeq (dAsg (dOp (sInt PowOk fun i j => i ^ j.toNat) (dOp (sInt PowOk fun i j => i ^ j.toNat) (dC (.int 10)) (dC (.int 60))) (dC (.int 10))) (gN 1)) t__law_store_0_1
abbrev t__law_store : DTS := t__law_store_0_0
theorem se__law_store (w0 : W) : startE N__law_store [w0] = [some w0, none, none, none] := rfl
theorem w__law_store {X : Cx} {k : Nat} (h : FX N__law_store (defScope st__law_store) none k X) (ho : PassesOwn (model X.prog X.w) X.A X.env X.xe) (m_len : X.mg "len" = none) (m_abs : X.mg "abs" = none) (m_int : X.mg "int" = none) : DSs X (defBody st__law_store) (t__law_store) :=
    (dss_cons (ds_asg rfl rfl tg_name (de_pow (de_pow de_int de_int) de_int) (h.tg (by decide +kernel)))
      (dss_cons (ds_asg rfl rfl tg_name (de_lst da_nil) (h.tg (by decide +kernel)))
      (dss_cons (h.for_ ho pl_name (di_row (h.var (i := 0) (by decide +kernel))) (h.tg (by decide +kernel)) (dss_cons (ds_if (DW.dt (dw_or (h.tcmp .GtE pl_bin (h.var (i := 3) (by decide +kernel)) (de_pow de_int de_int)) (dw_or1 (h.tcmp .LtE pl_bin (h.var (i := 3) (by decide +kernel)) (de_sub de_int (de_pow de_int de_int)))))) (dss_cons (ds_expr rfl (h.app ab_name (by decide +kernel) (pls_cons pl_lst pls_nil) (h.var (i := 2) (by decide +kernel)) (da_cons pl_lst (de_lst (da_cons pl_con de_int (da_cons pl_bin (de_mod (h.abs (by decide +kernel) m_abs (pls_cons pl_name pls_nil) (da_cons pl_name (h.var (i := 3) (by decide +kernel)) da_nil)) (h.var (i := 1) (by decide +kernel))) da_nil))) da_nil)))
      dss_nil) (dss_cons (ds_expr rfl (h.app ab_name (by decide +kernel) (pls_cons pl_lst pls_nil) (h.var (i := 2) (by decide +kernel)) (da_cons pl_lst (de_lst (da_cons pl_con de_int (da_cons pl_bin (de_mod (h.int (by decide +kernel) m_int (pls_cons pl_name pls_nil) (da_cons pl_name (h.var (i := 3) (by decide +kernel)) da_nil)) de_int) da_nil))) da_nil)))
      dss_nil))
      dss_nil))
      (dss_cons (ds_ret (de_lst (da_cons pl_name (h.var (i := 2) (by decide +kernel)) (da_cons pl_con de_int (da_cons pl_con de_int (da_cons pl_con de_int (da_cons pl_bin (de_add de_int (de_mul de_int (h.len (by decide +kernel) m_len (pls_cons pl_name pls_nil) (da_cons pl_name (h.var (i := 2) (by decide +kernel)) da_nil)))) (da_cons pl_con de_int da_nil))))))))
      dss_nil))))
/-! _law_take -/
def N__law_take : List Str := ["store", "many", "cell", "digit", "mixed"]
abbrev st__law_take : Stmt := top 38
abbrev ps__law_take : List Str := ["store", "many"]
theorem sc__law_take : FnScope N__law_take ps__law_take (defScope st__law_take) := ⟨rfl, rfl, rfl, by decide +kernel, rfl, by decide +kernel, by decide +kernel⟩
def t__law_take_0_7 : DTS := dSeq (dRet (dOp (sInt (fun _ j => 0 < j) fun i j => i % j) (dOp (sInt DivOk fun i j => i / j) (dVar 4) (dC (.int 8))) (dVar 1))) dNext
def t__law_take_0_6 : DTS := dSeq (dAsg (dOp (sInt (fun _ j => 0 < j) fun i j => i % j) (dCl (s1 kInt) (dCons (dOp sAdd (dOp sMul (dVar 4) (dC (.int 40692))) (dOp (sInt DivOk fun i j => i / j) (dOp sIx (dVar 0) (dC (.int 4))) (dC (.int 3)))) dNil)) (dC (.int 2147483399))) (gN 4)) t__law_take_0_7
def t__law_take_0_5 : DTS := dSeq (dAsg (dOp (sInt (fun _ j => 0 < j) fun i j => i % j) (dCl (s1 kInt) (dCons (dOp sAdd (dOp sMul (dOp sIx (dVar 0) (dC (.int 4))) (dOp sIx (dVar 0) (dC (.int 4)))) (dOp sMul (dOp sIx (dVar 0) (dC (.int 5))) (dC (.int 104729)))) dNil)) (dC (.int 2147483629))) (gN 4)) t__law_take_0_6
def t__law_take_0_4 : DTS := dSeq (dAsg (dOp (sInt (fun _ j => 0 < j) fun i j => i % j) (dCl (s1 kInt) (dCons (dOp sAdd (dOp sAdd (dOp sMul (dOp sIx (dVar 0) (dC (.int 4))) (dC (.int 48271))) (dOp sMul (dOp sIx (dVar 0) (dC (.int 5))) (dC (.int 7919)))) (dC (.int 11))) dNil)) (dC (.int 2147483647))) (gSub (dVar 0) (dC (.int 4)))) t__law_take_0_5
def t__law_take_0_3 : DTS := dSeq (dAsg (dCl (s2 (kI2 fun i j => if j > i then j else i)) (dCons (dC (.int 0)) (dCons (dOp (sInt (fun _ _ => True) fun i j => i - j) (dOp sIx (dVar 0) (dC (.int 3))) (dC (.int 1))) dNil))) (gSub (dVar 0) (dC (.int 3)))) t__law_take_0_4
def t__law_take_1_2 : DTS := dSeq (dRet (dVar 3)) dNext
def t__law_take_1_1 : DTS := dSeq (dAsg (dOp (sInt DivOk fun i j => i / j) (dOp sIx (dVar 0) (dC (.int 2))) (dVar 1)) (gSub (dVar 0) (dC (.int 2)))) t__law_take_1_2
def t__law_take_1_0 : DTS := dSeq (dAsg (dOp (sInt (fun _ j => 0 < j) fun i j => i % j) (dCl (s1 kInt) (dCons (dOp sIx (dVar 0) (dC (.int 2))) dNil)) (dVar 1)) (gN 3)) t__law_take_1_1
def t__law_take_0_2 : DTS := dSeq (dIf (dBl (dOp (sCmp .Gt) (dOp sIx (dVar 0) (dC (.int 2))) (dC (.int 0)))) t__law_take_1_0 dNext) t__law_take_0_3
def t__law_take_3_0 : DTS := dSeq (dAsg (dOp sIx (dVar 2) (dC (.int 1))) (gSub (dVar 0) (dC (.int 2)))) dNext
def t__law_take_4_0 : DTS := dSeq (dAsg (dC (.int 5)) (gSub (dVar 0) (dC (.int 3)))) dNext
def t__law_take_2_3 : DTS := dSeq (dIf (dBl (dOp (sCmp .Eq) (dOp sIx (dVar 2) (dC (.int 0))) (dC (.int 1)))) t__law_take_3_0 t__law_take_4_0) dNext
def t__law_take_2_2 : DTS := dSeq (dAsg (dOp (sInt (fun _ j => 0 < j) fun i j => i % j) (dCl (s1 kInt) (dCons (dOp sAdd (dOp sAdd (dOp sMul (dOp sIx (dVar 0) (dC (.int 4))) (dC (.int 69621))) (dOp sMul (dOp (sInt (fun _ j => 0 < j) fun i j => i % j) (dCl (s1 kInt) (dCons (dOp sIx (dVar 2) (dC (.int 1))) dNil)) (dC (.int 2147483647))) (dC (.int 40014)))) (dC (.int 12345))) dNil)) (dC (.int 2147483647))) (gSub (dVar 0) (dC (.int 4)))) t__law_take_2_3
def t__law_take_2_1 : DTS := dSeq (dAsg (dOp sAdd (dOp sIx (dVar 0) (dC (.int 1))) (dC (.int 1))) (gSub (dVar 0) (dC (.int 1)))) t__law_take_2_2
def t__law_take_2_0 : DTS := dSeq (dAsg (dOp sIx (dOp sIx (dVar 0) (dC (.int 0))) (dOp sIx (dVar 0) (dC (.int 1)))) (gN 2)) t__law_take_2_1
def t__law_take_0_1 : DTS := dSeq (dIf (dAndT (dBl (dOp (sCmp .Eq) (dOp sIx (dVar 0) (dC (.int 2))) (dC (.int 0)))) (dAndT (dBl (dOp (sCmp .Eq) (dOp sIx (dVar 0) (dC (.int 3))) (dC (.int 0)))) (dBl (dOp (sCmp .Lt) (dOp sIx (dVar 0) (dC (.int 1))) (dCl (s1 kLenN) (dCons (dOp sIx (dVar 0) (dC (.int 0))) dNil)))))) t__law_take_2_0 dNext) t__law_take_0_2
def t__law_take_0_0 : DTS := dSeq (dAsg (dOp sAdd (dOp sIx (dVar 0) (dC (.int 5))) (dC (.int 1))) (gSub (dVar 0) (dC (.int 5)))) t__law_take_0_1
abbrev t__law_take : DTS := t__law_take_0_0
theorem se__law_take (w0 w1 : W) : startE N__law_take [w0, w1] = [some w0, some w1, none, none, none] := rfl
theorem w__law_take {X : Cx} {k : Nat} (h : FX N__law_take (defScope st__law_take) none k X) (ho : PassesOwn (model X.prog X.w) X.A X.env X.xe) (m_int : X.mg "int" = none) (m_max : X.mg "max" = none) (m_len : X.mg "len" = none) : DSs X (defBody st__law_take) (t__law_take) :=
    (dss_cons (ds_asg rfl rfl tg_sub (de_add (de_ix pl_con (h.var (i := 0) (by decide +kernel)) de_int) de_int) (dg_sub (h.var (i := 0) (by decide +kernel)) de_int fun _ => rfl))
      (dss_cons (ds_if (DW.dt (dw_and (h.tcmp .Eq pl_con (de_ix pl_con (h.var (i := 0) (by decide +kernel)) de_int) de_int) (dw_and (h.tcmp .Eq pl_con (de_ix pl_con (h.var (i := 0) (by decide +kernel)) de_int) de_int) (dw_and1 (h.tcmp .Lt pl_call (de_ix pl_con (h.var (i := 0) (by decide +kernel)) de_int) (h.len (by decide +kernel) m_len (pls_cons pl_sub pls_nil) (da_cons pl_sub (de_ix pl_con (h.var (i := 0) (by decide +kernel)) de_int) da_nil))))))) (dss_cons (ds_asg rfl rfl tg_name (de_ix pl_sub (de_ix pl_con (h.var (i := 0) (by decide +kernel)) de_int) (de_ix pl_con (h.var (i := 0) (by decide +kernel)) de_int)) (h.tg (by decide +kernel)))
      (dss_cons (ds_asg rfl rfl tg_sub (de_add (de_ix pl_con (h.var (i := 0) (by decide +kernel)) de_int) de_int) (dg_sub (h.var (i := 0) (by decide +kernel)) de_int fun _ => rfl))
      (dss_cons (ds_asg rfl rfl tg_sub (de_mod (h.int (by decide +kernel) m_int (pls_cons pl_bin pls_nil) (da_cons pl_bin (de_add (de_add (de_mul (de_ix pl_con (h.var (i := 0) (by decide +kernel)) de_int) de_int) (de_mul (de_mod (h.int (by decide +kernel) m_int (pls_cons pl_sub pls_nil) (da_cons pl_sub (de_ix pl_con (h.var (i := 2) (by decide +kernel)) de_int) da_nil)) de_int) de_int)) de_int) da_nil)) de_int) (dg_sub (h.var (i := 0) (by decide +kernel)) de_int fun _ => rfl))
      (dss_cons (ds_if (h.tcmp .Eq pl_con (de_ix pl_con (h.var (i := 2) (by decide +kernel)) de_int) de_int) (dss_cons (ds_asg rfl rfl tg_sub (de_ix pl_con (h.var (i := 2) (by decide +kernel)) de_int) (dg_sub (h.var (i := 0) (by decide +kernel)) de_int fun _ => rfl))
      dss_nil) (dss_cons (ds_asg rfl rfl tg_sub de_int (dg_sub (h.var (i := 0) (by decide +kernel)) de_int fun _ => rfl))
      dss_nil))
      dss_nil)))) dss_nil)
      (dss_cons (ds_if (h.tcmp .Gt pl_con (de_ix pl_con (h.var (i := 0) (by decide +kernel)) de_int) de_int) (dss_cons (ds_asg rfl rfl tg_name (de_mod (h.int (by decide +kernel) m_int (pls_cons pl_sub pls_nil) (da_cons pl_sub (de_ix pl_con (h.var (i := 0) (by decide +kernel)) de_int) da_nil)) (h.var (i := 1) (by decide +kernel))) (h.tg (by decide +kernel)))
      (dss_cons (ds_asg rfl rfl tg_sub (de_fdiv (de_ix pl_con (h.var (i := 0) (by decide +kernel)) de_int) (h.var (i := 1) (by decide +kernel))) (dg_sub (h.var (i := 0) (by decide +kernel)) de_int fun _ => rfl))
      (dss_cons (ds_ret (h.var (i := 3) (by decide +kernel)))
      dss_nil))) dss_nil)
      (dss_cons (ds_asg rfl rfl tg_sub (h.max2 (by decide +kernel) m_max (pls_cons pl_con (pls_cons pl_bin pls_nil)) (da_cons pl_con de_int (da_cons pl_bin (de_sub (de_ix pl_con (h.var (i := 0) (by decide +kernel)) de_int) de_int) da_nil))) (dg_sub (h.var (i := 0) (by decide +kernel)) de_int fun _ => rfl))
      (dss_cons (ds_asg rfl rfl tg_sub (de_mod (h.int (by decide +kernel) m_int (pls_cons pl_bin pls_nil) (da_cons pl_bin (de_add (de_add (de_mul (de_ix pl_con (h.var (i := 0) (by decide +kernel)) de_int) de_int) (de_mul (de_ix pl_con (h.var (i := 0) (by decide +kernel)) de_int) de_int)) de_int) da_nil)) de_int) (dg_sub (h.var (i := 0) (by decide +kernel)) de_int fun _ => rfl))
      (dss_cons (ds_asg rfl rfl tg_name (de_mod (h.int (by decide +kernel) m_int (pls_cons pl_bin pls_nil) (da_cons pl_bin (de_add (de_mul (de_ix pl_con (h.var (i := 0) (by decide +kernel)) de_int) (de_ix pl_con (h.var (i := 0) (by decide +kernel)) de_int)) (de_mul (de_ix pl_con (h.var (i := 0) (by decide +kernel)) de_int) de_int)) da_nil)) de_int) (h.tg (by decide +kernel)))
      (dss_cons (ds_asg rfl rfl tg_name (de_mod (h.int (by decide +kernel) m_int (pls_cons pl_bin pls_nil) (da_cons pl_bin (de_add (de_mul (h.var (i := 4) (by decide +kernel)) de_int) (de_fdiv (de_ix pl_con (h.var (i := 0) (by decide +kernel)) de_int) de_int)) da_nil)) de_int) (h.tg (by decide +kernel)))
      (dss_cons (ds_ret (de_mod (de_fdiv (h.var (i := 4) (by decide +kernel)) de_int) (h.var (i := 1) (by decide +kernel))))
      dss_nil))))))))
/-! _law_between -/
def N__law_between : List Str := ["store", "low", "high", "choice"]
abbrev st__law_between : Stmt := top 39
abbrev ps__law_between : List Str := ["store", "low", "high"]
theorem sc__law_between : FnScope N__law_between ps__law_between (defScope st__law_between) := ⟨rfl, rfl, rfl, by decide +kernel, rfl, by decide +kernel, by decide +kernel⟩
def t__law_between_0_5 : DTS := dSeq (dRet (dOp sAdd (dVar 1) (dCall 2 S__law_take (dCons (dVar 0) (dCons (dOp sAdd (dOp (sInt (fun _ _ => True) fun i j => i - j) (dVar 2) (dVar 1)) (dC (.int 1))) dNil))))) dNext
def t__law_between_1_0 : DTS := dSeq (dRet (dOp sAdd (dVar 1) (dC (.int 1)))) dNext
def t__law_between_0_4 : DTS := dSeq (dIf (dBl (dOp (sCmp .Eq) (dVar 3) (dC (.int 2)))) t__law_between_1_0 dNext) t__law_between_0_5
def t__law_between_2_0 : DTS := dSeq (dRet (dVar 2)) dNext
def t__law_between_0_3 : DTS := dSeq (dIf (dBl (dOp (sCmp .Eq) (dVar 3) (dC (.int 1)))) t__law_between_2_0 dNext) t__law_between_0_4
def t__law_between_3_0 : DTS := dSeq (dRet (dVar 1)) dNext
def t__law_between_0_2 : DTS := dSeq (dIf (dBl (dOp (sCmp .Eq) (dVar 3) (dC (.int 0)))) t__law_between_3_0 dNext) t__law_between_0_3
def t__law_between_0_1 : DTS := dSeq (dAsg (dCall 2 S__law_take (dCons (dVar 0) (dCons (dC (.int 6)) dNil))) (gN 3)) t__law_between_0_2
def t__law_between_4_0 : DTS := dSeq (dRet (dVar 1)) dNext
def t__law_between_0_0 : DTS := dSeq (dIf (dBl (dOp (sCmp .LtE) (dVar 2) (dVar 1))) t__law_between_4_0 dNext) t__law_between_0_1
abbrev t__law_between : DTS := t__law_between_0_0
theorem se__law_between (w0 w1 w2 : W) : startE N__law_between [w0, w1, w2] = [some w0, some w1, some w2, none] := rfl
theorem w__law_between {X : Cx} {k : Nat} (h : FX N__law_between (defScope st__law_between) none k X) (ho : PassesOwn (model X.prog X.w) X.A X.env X.xe) {l__law_take : Nat} (c__law_take : DFn X.prog X.w X.K X.mg X.base "_law_take" ps__law_take l__law_take S__law_take) (j__law_take : Nat.ble l__law_take k = true) : DSs X (defBody st__law_between) (t__law_between) :=
    (dss_cons (ds_if (h.tcmp .LtE pl_name (h.var (i := 2) (by decide +kernel)) (h.var (i := 1) (by decide +kernel))) (dss_cons (ds_ret (h.var (i := 1) (by decide +kernel)))
      dss_nil) dss_nil)
      (dss_cons (ds_asg rfl rfl tg_name (h.call c__law_take j__law_take (by decide +kernel) (pls_cons pl_name (pls_cons pl_con pls_nil)) (da_cons pl_name (h.var (i := 0) (by decide +kernel)) (da_cons pl_con de_int da_nil))) (h.tg (by decide +kernel)))
      (dss_cons (ds_if (h.tcmp .Eq pl_con (h.var (i := 3) (by decide +kernel)) de_int) (dss_cons (ds_ret (h.var (i := 1) (by decide +kernel)))
      dss_nil) dss_nil)
      (dss_cons (ds_if (h.tcmp .Eq pl_con (h.var (i := 3) (by decide +kernel)) de_int) (dss_cons (ds_ret (h.var (i := 2) (by decide +kernel)))
      dss_nil) dss_nil)
      (dss_cons (ds_if (h.tcmp .Eq pl_con (h.var (i := 3) (by decide +kernel)) de_int) (dss_cons (ds_ret (de_add (h.var (i := 1) (by decide +kernel)) de_int))
      dss_nil) dss_nil)
      (dss_cons (ds_ret (de_add (h.var (i := 1) (by decide +kernel)) (h.call c__law_take j__law_take (by decide +kernel) (pls_cons pl_name (pls_cons pl_bin pls_nil)) (da_cons pl_name (h.var (i := 0) (by decide +kernel)) (da_cons pl_bin (de_add (de_sub (h.var (i := 2) (by decide +kernel)) (h.var (i := 1) (by decide +kernel))) de_int) da_nil)))))
      dss_nil))))))
/-! _law_wild -/
def N__law_wild : List Str := ["store", "great", "edges", "number", "choice"]
abbrev st__law_wild : Stmt := top 40
abbrev ps__law_wild : List Str := ["store"]
theorem sc__law_wild : FnScope N__law_wild ps__law_wild (defScope st__law_wild) := ⟨rfl, rfl, rfl, by decide +kernel, rfl, by decide +kernel, by decide +kernel⟩
def t__law_wild_0_7 : DTS := dSeq (dRet (dVar 3)) dNext
def t__law_wild_1_0 : DTS := dSeq (dRet (dOp (sInt (fun _ _ => True) fun i j => i - j) (dCall 2 S__law_take (dCons (dVar 0) (dCons (dC (.int 201)) dNil))) (dC (.int 100)))) dNext
def t__law_wild_0_6 : DTS := dSeq (dIf (dBl (dOp (sCmp .Eq) (dVar 4) (dC (.int 2)))) t__law_wild_1_0 dNext) t__law_wild_0_7
def t__law_wild_2_0 : DTS := dSeq (dRet (dOp (sInt (fun _ _ => True) fun i j => i - j) (dC (.int 0)) (dC (.int 1)))) dNext
def t__law_wild_0_5 : DTS := dSeq (dIf (dBl (dOp (sCmp .Eq) (dVar 4) (dC (.int 1)))) t__law_wild_2_0 dNext) t__law_wild_0_6
def t__law_wild_3_0 : DTS := dSeq (dRet (dOp (sInt (fun _ _ => True) fun i j => i - j) (dC (.int 0)) (dVar 3))) dNext
def t__law_wild_0_4 : DTS := dSeq (dIf (dBl (dOp (sCmp .Eq) (dVar 4) (dC (.int 0)))) t__law_wild_3_0 dNext) t__law_wild_0_5
def t__law_wild_0_3 : DTS := dSeq (dAsg (dCall 2 S__law_take (dCons (dVar 0) (dCons (dC (.int 4)) dNil))) (gN 4)) t__law_wild_0_4
def t__law_wild_0_2 : DTS := dSeq (dAsg (dOp sIx (dVar 2) (dCall 2 S__law_take (dCons (dVar 0) (dCons (dC (.int 13)) dNil)))) (gN 3)) t__law_wild_0_3
def t__law_wild_0_1 : DTS := dSeq (dAsg (dLst (dCons (dC (.int 0)) (dCons (dC (.int 1)) (dCons (dC (.int 2)) (dCons (dC (.int 9)) (dCons (dC (.int 10)) (dCons (dC (.int 11)) (dCons (dC (.int 15)) (dCons (dC (.int 16)) (dCons (dC (.int 17)) (dCons (dC (.int 64)) (dCons (dC (.int 65)) (dCons (dOp (sInt PowOk fun i j => i ^ j.toNat) (dC (.int 10)) (dC (.int 18))) (dCons (dVar 1) dNil)))))))))))))) (gN 2)) t__law_wild_0_2
def t__law_wild_0_0 : DTS := dSeq (dAsg (dOp (sInt PowOk fun i j => i ^ j.toNat) (dOp (sInt PowOk fun i j => i ^ j.toNat) (dC (.int 10)) (dC (.int 60))) (dC (.int 6))) (gN 1)) t__law_wild_0_1
abbrev t__law_wild : DTS := t__law_wild_0_0
theorem se__law_wild (w0 : W) : startE N__law_wild [w0] = [some w0, none, none, none, none] := rfl
theorem w__law_wild {X : Cx} {k : Nat} (h : FX N__law_wild (defScope st__law_wild) none k X) (ho : PassesOwn (model X.prog X.w) X.A X.env X.xe) {l__law_take : Nat} (c__law_take : DFn X.prog X.w X.K X.mg X.base "_law_take" ps__law_take l__law_take S__law_take) (j__law_take : Nat.ble l__law_take k = true) : DSs X (defBody st__law_wild) (t__law_wild) :=
    (dss_cons (ds_asg rfl rfl tg_name (de_pow (de_pow de_int de_int) de_int) (h.tg (by decide +kernel)))
      (dss_cons (ds_asg rfl rfl tg_name (de_lst (da_cons pl_con de_int (da_cons pl_con de_int (da_cons pl_con de_int (da_cons pl_con de_int (da_cons pl_con de_int (da_cons pl_con de_int (da_cons pl_con de_int (da_cons pl_con de_int (da_cons pl_con de_int (da_cons pl_con de_int (da_cons pl_con de_int (da_cons pl_bin (de_pow de_int de_int) (da_cons pl_name (h.var (i := 1) (by decide +kernel)) da_nil)))))))))))))) (h.tg (by decide +kernel)))
      (dss_cons (ds_asg rfl rfl tg_name (de_ix pl_call (h.var (i := 2) (by decide +kernel)) (h.call c__law_take j__law_take (by decide +kernel) (pls_cons pl_name (pls_cons pl_con pls_nil)) (da_cons pl_name (h.var (i := 0) (by decide +kernel)) (da_cons pl_con de_int da_nil)))) (h.tg (by decide +kernel)))
      (dss_cons (ds_asg rfl rfl tg_name (h.call c__law_take j__law_take (by decide +kernel) (pls_cons pl_name (pls_cons pl_con pls_nil)) (da_cons pl_name (h.var (i := 0) (by decide +kernel)) (da_cons pl_con de_int da_nil))) (h.tg (by decide +kernel)))
      (dss_cons (ds_if (h.tcmp .Eq pl_con (h.var (i := 4) (by decide +kernel)) de_int) (dss_cons (ds_ret (de_sub de_int (h.var (i := 3) (by decide +kernel))))
      dss_nil) dss_nil)
      (dss_cons (ds_if (h.tcmp .Eq pl_con (h.var (i := 4) (by decide +kernel)) de_int) (dss_cons (ds_ret (de_sub de_int de_int))
      dss_nil) dss_nil)
      (dss_cons (ds_if (h.tcmp .Eq pl_con (h.var (i := 4) (by decide +kernel)) de_int) (dss_cons (ds_ret (de_sub (h.call c__law_take j__law_take (by decide +kernel) (pls_cons pl_name (pls_cons pl_con pls_nil)) (da_cons pl_name (h.var (i := 0) (by decide +kernel)) (da_cons pl_con de_int da_nil))) de_int))
      dss_nil) dss_nil)
      (dss_cons (ds_ret (h.var (i := 3) (by decide +kernel)))
      dss_nil))))))))
/-! _law_whole -/
def N__law_whole : List Str := ["thing"]
abbrev st__law_whole : Stmt := top 41
abbrev ps__law_whole : List Str := ["thing"]
theorem sc__law_whole : FnScope N__law_whole ps__law_whole (defScope st__law_whole) := ⟨rfl, rfl, rfl, by decide +kernel, rfl, by decide +kernel, by decide +kernel⟩
def t__law_whole_0_0 : DTS := dSeq (dRet (dAnd (dCl (s2 kIsi) (dCons (dVar 0) (dCons (dC (.ty "int")) dNil))) (dNot (dCl (s2 kIsi) (dCons (dVar 0) (dCons (dC (.ty "bool")) dNil)))))) dNext
abbrev t__law_whole : DTS := t__law_whole_0_0
theorem se__law_whole (w0 : W) : startE N__law_whole [w0] = [some w0] := rfl
theorem w__law_whole {X : Cx} {k : Nat} (h : FX N__law_whole (defScope st__law_whole) none k X) (ho : PassesOwn (model X.prog X.w) X.A X.env X.xe) (m_bool : X.mg "bool" = none) (m_isinstance : X.mg "isinstance" = none) (m_int : X.mg "int" = none) : DSs X (defBody st__law_whole) (t__law_whole) :=
    (dss_cons (ds_ret (de_and (h.isi (by decide +kernel) m_isinstance (pls_cons pl_name (pls_cons pl_name pls_nil)) (da_cons pl_name (h.var (i := 0) (by decide +kernel)) (da_cons pl_name (h.ty (by decide +kernel) m_int b_int) da_nil))) (de_one (de_not (h.isi (by decide +kernel) m_isinstance (pls_cons pl_name (pls_cons pl_name pls_nil)) (da_cons pl_name (h.var (i := 0) (by decide +kernel)) (da_cons pl_name (h.ty (by decide +kernel) m_bool b_bool) da_nil)))))))
      dss_nil)
/-! _law_parts -/
def N__law_parts : List Str := ["thing", "parts", "key"]
abbrev st__law_parts : Stmt := top 42
abbrev ps__law_parts : List Str := ["thing"]
theorem sc__law_parts : FnScope N__law_parts ps__law_parts (defScope st__law_parts) := ⟨rfl, rfl, rfl, by decide +kernel, rfl, by decide +kernel, by decide +kernel⟩
def t__law_parts_0_1 : DTS := dSeq (dRet (dCl (s1 kListOf) (dCons (dVar 0) dNil))) dNext
def t__law_parts_1_2 : DTS := dSeq (dRet (dVar 1)) dNext
def t__law_parts_2_0 : DTS := dSeq (dAsg (dOp sAdd (dVar 1) (dLst (dCons (dVar 2) (dCons (dOp sIx (dVar 0) (dVar 2)) dNil)))) (gN 1)) dNext
def t__law_parts_1_1 : DTS := dSeq (dFor (dRow (dCl (s1 kListOf) (dCons (dVar 0) dNil))) (gN 2) t__law_parts_2_0) t__law_parts_1_2
def t__law_parts_1_0 : DTS := dSeq (dAsg (dLst dNil) (gN 1)) t__law_parts_1_1
def t__law_parts_0_0 : DTS := dSeq (dIf (dTru (dCl (s2 kIsi) (dCons (dVar 0) (dCons (dC (.ty "dict")) dNil)))) t__law_parts_1_0 dNext) t__law_parts_0_1
abbrev t__law_parts : DTS := t__law_parts_0_0
theorem se__law_parts (w0 : W) : startE N__law_parts [w0] = [some w0, none, none] := rfl
theorem w__law_parts {X : Cx} {k : Nat} (h : FX N__law_parts (defScope st__law_parts) none k X) (ho : PassesOwn (model X.prog X.w) X.A X.env X.xe) (m_list : X.mg "list" = none) (m_dict : X.mg "dict" = none) (m_isinstance : X.mg "isinstance" = none) : DSs X (defBody st__law_parts) (t__law_parts) :=
    (dss_cons (ds_if (dt_tru tr_call (h.isi (by decide +kernel) m_isinstance (pls_cons pl_name (pls_cons pl_name pls_nil)) (da_cons pl_name (h.var (i := 0) (by decide +kernel)) (da_cons pl_name (h.ty (by decide +kernel) m_dict b_dict) da_nil)))) (dss_cons (ds_asg rfl rfl tg_name (de_lst da_nil) (h.tg (by decide +kernel)))
      (dss_cons (h.for_ ho pl_call (di_row (h.list (by decide +kernel) m_list (pls_cons pl_name pls_nil) (da_cons pl_name (h.var (i := 0) (by decide +kernel)) da_nil))) (h.tg (by decide +kernel)) (dss_cons (ds_asg rfl rfl tg_name (de_add (h.var (i := 1) (by decide +kernel)) (de_lst (da_cons pl_name (h.var (i := 2) (by decide +kernel)) (da_cons pl_sub (de_ix pl_name (h.var (i := 0) (by decide +kernel)) (h.var (i := 2) (by decide +kernel))) da_nil)))) (h.tg (by decide +kernel)))
      dss_nil))
      (dss_cons (ds_ret (h.var (i := 1) (by decide +kernel)))
      dss_nil))) dss_nil)
      (dss_cons (ds_ret (h.list (by decide +kernel) m_list (pls_cons pl_name pls_nil) (da_cons pl_name (h.var (i := 0) (by decide +kernel)) da_nil)))
      dss_nil))
/-! _law_marking -/
def N__law_marking : List Str := ["thing"]
abbrev st__law_marking : Stmt := top 43
abbrev ps__law_marking : List Str := ["thing"]
theorem sc__law_marking : FnScope N__law_marking ps__law_marking (defScope st__law_marking) := ⟨rfl, rfl, rfl, by decide +kernel, rfl, by decide +kernel, by decide +kernel⟩
def t__law_marking_0_6 : DTS := dSeq (dRet (dC (.str [63]))) dNext
def t__law_marking_1_0 : DTS := dSeq (dRet (dC (.str [115]))) dNext
def t__law_marking_0_5 : DTS := dSeq (dIf (dTru (dCl (s2 kIsi) (dCons (dVar 0) (dCons (dC (.ty "str")) dNil)))) t__law_marking_1_0 dNext) t__law_marking_0_6
def t__law_marking_2_0 : DTS := dSeq (dRet (dC (.str [105]))) dNext
def t__law_marking_0_4 : DTS := dSeq (dIf (dTru (dCl (s2 kIsi) (dCons (dVar 0) (dCons (dC (.ty "int")) dNil)))) t__law_marking_2_0 dNext) t__law_marking_0_5
def t__law_marking_3_0 : DTS := dSeq (dRet (dC (.str [98]))) dNext
def t__law_marking_0_3 : DTS := dSeq (dIf (dOrT (dTru (dCl (s2 kIsi) (dCons (dVar 0) (dCons (dC (.ty "bool")) dNil)))) (dBl (dOp (sCmp .Is) (dVar 0) (dC .non)))) t__law_marking_3_0 dNext) t__law_marking_0_4
def t__law_marking_4_0 : DTS := dSeq (dRet (dC (.str [116]))) dNext
def t__law_marking_0_2 : DTS := dSeq (dIf (dTru (dCl (s2 kIsi) (dCons (dVar 0) (dCons (dC (.ty "tuple")) dNil)))) t__law_marking_4_0 dNext) t__law_marking_0_3
def t__law_marking_5_0 : DTS := dSeq (dRet (dC (.str [108]))) dNext
def t__law_marking_0_1 : DTS := dSeq (dIf (dTru (dCl (s2 kIsi) (dCons (dVar 0) (dCons (dC (.ty "list")) dNil)))) t__law_marking_5_0 dNext) t__law_marking_0_2
def t__law_marking_6_0 : DTS := dSeq (dRet (dC (.str [100]))) dNext
def t__law_marking_0_0 : DTS := dSeq (dIf (dTru (dCl (s2 kIsi) (dCons (dVar 0) (dCons (dC (.ty "dict")) dNil)))) t__law_marking_6_0 dNext) t__law_marking_0_1
abbrev t__law_marking : DTS := t__law_marking_0_0
theorem se__law_marking (w0 : W) : startE N__law_marking [w0] = [some w0] := rfl
theorem w__law_marking {X : Cx} {k : Nat} (h : FX N__law_marking (defScope st__law_marking) none k X) (ho : PassesOwn (model X.prog X.w) X.A X.env X.xe) (m_str : X.mg "str" = none) (m_isinstance : X.mg "isinstance" = none) (m_int : X.mg "int" = none) (m_bool : X.mg "bool" = none) (m_tuple : X.mg "tuple" = none) (m_list : X.mg "list" = none) (m_dict : X.mg "dict" = none) : DSs X (defBody st__law_marking) (t__law_marking) :=
    (dss_cons (ds_if (dt_tru tr_call (h.isi (by decide +kernel) m_isinstance (pls_cons pl_name (pls_cons pl_name pls_nil)) (da_cons pl_name (h.var (i := 0) (by decide +kernel)) (da_cons pl_name (h.ty (by decide +kernel) m_dict b_dict) da_nil)))) (dss_cons (ds_ret de_str)
      dss_nil) dss_nil)
      (dss_cons (ds_if (dt_tru tr_call (h.isi (by decide +kernel) m_isinstance (pls_cons pl_name (pls_cons pl_name pls_nil)) (da_cons pl_name (h.var (i := 0) (by decide +kernel)) (da_cons pl_name (h.ty (by decide +kernel) m_list b_list) da_nil)))) (dss_cons (ds_ret de_str)
      dss_nil) dss_nil)
      (dss_cons (ds_if (dt_tru tr_call (h.isi (by decide +kernel) m_isinstance (pls_cons pl_name (pls_cons pl_name pls_nil)) (da_cons pl_name (h.var (i := 0) (by decide +kernel)) (da_cons pl_name (h.ty (by decide +kernel) m_tuple b_tuple) da_nil)))) (dss_cons (ds_ret de_str)
      dss_nil) dss_nil)
      (dss_cons (ds_if (DW.dt (dw_or (dt_tru tr_call (h.isi (by decide +kernel) m_isinstance (pls_cons pl_name (pls_cons pl_name pls_nil)) (da_cons pl_name (h.var (i := 0) (by decide +kernel)) (da_cons pl_name (h.ty (by decide +kernel) m_bool b_bool) da_nil)))) (dw_or1 (h.tcmp .Is pl_con (h.var (i := 0) (by decide +kernel)) de_non)))) (dss_cons (ds_ret de_str)
      dss_nil) dss_nil)
      (dss_cons (ds_if (dt_tru tr_call (h.isi (by decide +kernel) m_isinstance (pls_cons pl_name (pls_cons pl_name pls_nil)) (da_cons pl_name (h.var (i := 0) (by decide +kernel)) (da_cons pl_name (h.ty (by decide +kernel) m_int b_int) da_nil)))) (dss_cons (ds_ret de_str)
      dss_nil) dss_nil)
      (dss_cons (ds_if (dt_tru tr_call (h.isi (by decide +kernel) m_isinstance (pls_cons pl_name (pls_cons pl_name pls_nil)) (da_cons pl_name (h.var (i := 0) (by decide +kernel)) (da_cons pl_name (h.ty (by decide +kernel) m_str b_str) da_nil)))) (dss_cons (ds_ret de_str)
      dss_nil) dss_nil)
      (dss_cons (ds_ret de_str)
      dss_nil)))))))
/-! _law_same -/
def N__law_same : List Str := ["one", "two", "stack", "step", "left", "right", "mark", "lefts", "rights", "k"]
abbrev st__law_same : Stmt := top 44
abbrev ps__law_same : List Str := ["one", "two"]
theorem sc__law_same : FnScope N__law_same ps__law_same (defScope st__law_same) := ⟨rfl, rfl, rfl, by decide +kernel, rfl, by decide +kernel, by decide +kernel⟩
def t__law_same_0_2 : DTS := dSeq (dRet (dC (.bl false))) dNext
def t__law_same_3_0 : DTS := dSeq (dDrop (dBm "list" mApp (dVar 2) (dCons (dTup (dCons (dOp sIx (dVar 7) (dVar 9)) (dCons (dOp sIx (dVar 8) (dVar 9)) dNil))) dNil))) dNext
def t__law_same_2_3 : DTS := dSeq (dFor (dRng1 (dCl (s1 kLenN) (dCons (dVar 7) dNil))) (gN 9) t__law_same_3_0) dNext
def t__law_same_4_0 : DTS := dSeq (dRet (dC (.bl false))) dNext
def t__law_same_2_2 : DTS := dSeq (dIf (dBl (dOp (sCmp .NotEq) (dCl (s1 kLenN) (dCons (dVar 7) dNil)) (dCl (s1 kLenN) (dCons (dVar 8) dNil)))) t__law_same_4_0 dNext) t__law_same_2_3
def t__law_same_2_1 : DTS := dSeq (dAsg (dCall 1 S__law_parts (dCons (dVar 5) dNil)) (gN 8)) t__law_same_2_2
def t__law_same_2_0 : DTS := dSeq (dAsg (dCall 1 S__law_parts (dCons (dVar 4) dNil)) (gN 7)) t__law_same_2_1
def t__law_same_6_0 : DTS := dSeq (dRet (dC (.bl false))) dNext
def t__law_same_5_0 : DTS := dSeq (dIf (dOrT (dAndT (dBl (dOp (sCmp .Eq) (dVar 6) (dC (.str [98])))) (dBl (dOp (sCmp .NotEq) (dCl (s1 kRepr) (dCons (dVar 4) dNil)) (dCl (s1 kRepr) (dCons (dVar 5) dNil))))) (dAndT (dBl (dOp (sCmp .NotEq) (dVar 6) (dC (.str [98])))) (dBl (dOp (sCmp .NotEq) (dVar 4) (dVar 5))))) t__law_same_6_0 dNext) dNext
def t__law_same_1_4 : DTS := dSeq (dIf (dBl (dOp (sCmp .In) (dVar 6) (dC (.str [100, 108, 116])))) t__law_same_2_0 t__law_same_5_0) dNext
def t__law_same_7_0 : DTS := dSeq (dRet (dC (.bl false))) dNext
def t__law_same_1_3 : DTS := dSeq (dIf (dOrT (dBl (dOp (sCmp .NotEq) (dVar 6) (dCall 1 S__law_marking (dCons (dVar 5) dNil)))) (dBl (dOp (sCmp .Eq) (dVar 6) (dC (.str [63]))))) t__law_same_7_0 dNext) t__law_same_1_4
def t__law_same_1_2 : DTS := dSeq (dAsg (dCall 1 S__law_marking (dCons (dVar 4) dNil)) (gN 6)) t__law_same_1_3
def t__law_same_1_1 : DTS := dSeq (dAsg (dBm "list" mPop (dVar 2) dNil) (gTp 2 (gsCons (gN 4) (gsCons (gN 5) gsNil)))) t__law_same_1_2
def t__law_same_8_0 : DTS := dSeq (dRet (dC (.bl true))) dNext
def t__law_same_1_0 : DTS := dSeq (dIf (dBl (dOp (sCmp .Eq) (dCl (s1 kLenN) (dCons (dVar 2) dNil)) (dC (.int 0)))) t__law_same_8_0 dNext) t__law_same_1_1
def t__law_same_0_1 : DTS := dSeq (dFor (dRng1 (dC (.int 40000))) (gN 3) t__law_same_1_0) t__law_same_0_2
def t__law_same_0_0 : DTS := dSeq (dAsg (dLst (dCons (dTup (dCons (dVar 0) (dCons (dVar 1) dNil))) dNil)) (gN 2)) t__law_same_0_1
abbrev t__law_same : DTS := t__law_same_0_0
theorem se__law_same (w0 w1 : W) : startE N__law_same [w0, w1] = [some w0, some w1, none, none, none, none, none, none, none, none] := rfl
theorem w__law_same {X : Cx} {k : Nat} (h : FX N__law_same (defScope st__law_same) none k X) (ho : PassesOwn (model X.prog X.w) X.A X.env X.xe) {l__law_parts : Nat} (c__law_parts : DFn X.prog X.w X.K X.mg X.base "_law_parts" ps__law_parts l__law_parts S__law_parts) (j__law_parts : Nat.ble l__law_parts k = true) {l__law_marking : Nat} (c__law_marking : DFn X.prog X.w X.K X.mg X.base "_law_marking" ps__law_marking l__law_marking S__law_marking) (j__law_marking : Nat.ble l__law_marking k = true) (m_range : X.mg "range" = none) (m_len : X.mg "len" = none) (m_repr : X.mg "repr" = none) : DSs X (defBody st__law_same) (t__law_same) :=
    (dss_cons (ds_asg rfl rfl tg_name (de_lst (da_cons pl_tup (de_tup (da_cons pl_name (h.var (i := 0) (by decide +kernel)) (da_cons pl_name (h.var (i := 1) (by decide +kernel)) da_nil))) da_nil)) (h.tg (by decide +kernel)))
      (dss_cons (h.for_ ho pl_call (h.rng1 (by decide +kernel) m_range pl_con de_int) (h.tg (by decide +kernel)) (dss_cons (ds_if (h.tcmp .Eq pl_con (h.len (by decide +kernel) m_len (pls_cons pl_name pls_nil) (da_cons pl_name (h.var (i := 2) (by decide +kernel)) da_nil)) de_int) (dss_cons (ds_ret de_bl)
      dss_nil) dss_nil)
      (dss_cons (ds_asg rfl rfl tg_tup (h.pop ab_name (by decide +kernel) (h.var (i := 2) (by decide +kernel))) (dg_tup h.calm (tgs_cons tg_name (tgs_cons tg_name tgs_nil)) (dgs_cons (h.tg (by decide +kernel)) (dgs_cons (h.tg (by decide +kernel)) dgs_nil rfl) rfl)))
      (dss_cons (ds_asg rfl rfl tg_name (h.call c__law_marking j__law_marking (by decide +kernel) (pls_cons pl_name pls_nil) (da_cons pl_name (h.var (i := 4) (by decide +kernel)) da_nil)) (h.tg (by decide +kernel)))
      (dss_cons (ds_if (DW.dt (dw_or (h.tcmp .NotEq pl_call (h.var (i := 6) (by decide +kernel)) (h.call c__law_marking j__law_marking (by decide +kernel) (pls_cons pl_name pls_nil) (da_cons pl_name (h.var (i := 5) (by decide +kernel)) da_nil))) (dw_or1 (h.tcmp .Eq pl_con (h.var (i := 6) (by decide +kernel)) de_str)))) (dss_cons (ds_ret de_bl)
      dss_nil) dss_nil)
      (dss_cons (ds_if (h.tcmp .In pl_con (h.var (i := 6) (by decide +kernel)) de_str) (dss_cons (ds_asg rfl rfl tg_name (h.call c__law_parts j__law_parts (by decide +kernel) (pls_cons pl_name pls_nil) (da_cons pl_name (h.var (i := 4) (by decide +kernel)) da_nil)) (h.tg (by decide +kernel)))
      (dss_cons (ds_asg rfl rfl tg_name (h.call c__law_parts j__law_parts (by decide +kernel) (pls_cons pl_name pls_nil) (da_cons pl_name (h.var (i := 5) (by decide +kernel)) da_nil)) (h.tg (by decide +kernel)))
      (dss_cons (ds_if (h.tcmp .NotEq pl_call (h.len (by decide +kernel) m_len (pls_cons pl_name pls_nil) (da_cons pl_name (h.var (i := 7) (by decide +kernel)) da_nil)) (h.len (by decide +kernel) m_len (pls_cons pl_name pls_nil) (da_cons pl_name (h.var (i := 8) (by decide +kernel)) da_nil))) (dss_cons (ds_ret de_bl)
      dss_nil) dss_nil)
      (dss_cons (h.for_ ho pl_call (h.rng1 (by decide +kernel) m_range pl_call (h.len (by decide +kernel) m_len (pls_cons pl_name pls_nil) (da_cons pl_name (h.var (i := 7) (by decide +kernel)) da_nil))) (h.tg (by decide +kernel)) (dss_cons (ds_expr rfl (h.app ab_name (by decide +kernel) (pls_cons pl_tup pls_nil) (h.var (i := 2) (by decide +kernel)) (da_cons pl_tup (de_tup (da_cons pl_sub (de_ix pl_name (h.var (i := 7) (by decide +kernel)) (h.var (i := 9) (by decide +kernel))) (da_cons pl_sub (de_ix pl_name (h.var (i := 8) (by decide +kernel)) (h.var (i := 9) (by decide +kernel))) da_nil))) da_nil)))
      dss_nil))
      dss_nil)))) (dss_cons (ds_if (DW.dt (dw_or (DW.dt (dw_and (h.tcmp .Eq pl_con (h.var (i := 6) (by decide +kernel)) de_str) (dw_and1 (h.tcmp .NotEq pl_call (h.repr (by decide +kernel) m_repr (pls_cons pl_name pls_nil) (da_cons pl_name (h.var (i := 4) (by decide +kernel)) da_nil)) (h.repr (by decide +kernel) m_repr (pls_cons pl_name pls_nil) (da_cons pl_name (h.var (i := 5) (by decide +kernel)) da_nil)))))) (dw_or1 (DW.dt (dw_and (h.tcmp .NotEq pl_con (h.var (i := 6) (by decide +kernel)) de_str) (dw_and1 (h.tcmp .NotEq pl_name (h.var (i := 4) (by decide +kernel)) (h.var (i := 5) (by decide +kernel))))))))) (dss_cons (ds_ret de_bl)
      dss_nil) dss_nil)
      dss_nil))
      dss_nil))))))
      (dss_cons (ds_ret de_bl)
      dss_nil)))
/-! _law_classes -/
def N__law_classes : List Str := ["e", "flags", "names", "k"]
abbrev st__law_classes : Stmt := top 45
abbrev ps__law_classes : List Str := ["e"]
theorem sc__law_classes : FnScope N__law_classes ps__law_classes (defScope st__law_classes) := ⟨rfl, rfl, rfl, by decide +kernel, rfl, by decide +kernel, by decide +kernel⟩
def t__law_classes_0_4 : DTS := dSeq (dRet (dComp [3] (dRng1 (dC (.int 29))) (gN 3) (dTru (dOp sIx (dVar 1) (dVar 3))) (dOp sIx (dVar 2) (dVar 3)))) dNext
def t__law_classes_0_3 : DTS := dSeq (dAsg (dBm "str" mSplit (dOp sAdd (dVar 2) (dC (.str [75, 110, 111, 116, 116, 101, 100, 32, 66, 97, 100, 72, 101, 97, 100, 32, 78, 111, 116, 79, 110, 101, 32, 87, 97, 105, 116, 105, 110, 103, 32, 68, 105, 102, 102, 101, 114, 115, 32, 66, 97, 100, 80, 97, 112, 101, 114, 32, 78, 111, 116, 104, 105, 110, 103, 66, 97, 99, 107]))) (dCons (dC (.str [32])) dNil)) (gN 2)) t__law_classes_0_4
def t__law_classes_0_2 : DTS := dSeq (dAsg (dOp sAdd (dVar 2) (dC (.str [66, 97, 100, 78, 117, 109, 98, 101, 114, 32, 66, 97, 100, 67, 111, 117, 110, 116, 32, 66, 97, 100, 66, 108, 111, 99, 107, 32, 66, 97, 100, 76, 101, 116, 116, 101, 114, 32, 78, 111, 116, 75, 101, 112, 116, 32, 71, 97, 112, 32, 66, 97, 114, 101, 32, 78, 111, 116, 104, 105, 110, 103, 76, 101, 102, 116, 32, 66, 97, 100, 67, 117, 116, 32, 66, 97, 100, 79, 114, 100, 101, 114, 32, 66, 97, 100, 84, 114, 101, 101, 32]))) (gN 2)) t__law_classes_0_3
def t__law_classes_0_1 : DTS := dSeq (dAsg (dC (.str [66, 97, 100, 76, 105, 110, 101, 32, 83, 116, 114, 97, 110, 103, 101, 32, 84, 111, 111, 77, 97, 110, 121, 32, 66, 97, 100, 84, 97, 98, 108, 101, 32, 78, 111, 116, 65, 115, 115, 111, 99, 105, 97, 116, 105, 118, 101, 32, 66, 97, 100, 75, 105, 110, 100, 32, 66, 97, 100, 76, 111, 116, 32, 78, 111, 116, 67, 108, 111, 115, 101, 100, 32, 78, 111, 116, 83, 104, 111, 119, 110, 32, 78, 111, 76, 105, 110, 101, 32, 66, 97, 100, 83, 104, 97, 112, 101, 32])) (gN 2)) t__law_classes_0_2
def t__law_classes_0_0 : DTS := dSeq (dAsg (dLst (dCons (dCl (s2 kIsX) (dCons (dVar 0) (dCons (dC (.glo "BadLine")) dNil))) (dCons (dCl (s2 kIsX) (dCons (dVar 0) (dCons (dC (.glo "Strange")) dNil))) (dCons (dCl (s2 kIsX) (dCons (dVar 0) (dCons (dC (.glo "TooMany")) dNil))) (dCons (dCl (s2 kIsX) (dCons (dVar 0) (dCons (dC (.glo "BadTable")) dNil))) (dCons (dCl (s2 kIsX) (dCons (dVar 0) (dCons (dC (.glo "NotAssociative")) dNil))) (dCons (dCl (s2 kIsX) (dCons (dVar 0) (dCons (dC (.glo "BadKind")) dNil))) (dCons (dCl (s2 kIsX) (dCons (dVar 0) (dCons (dC (.glo "BadLot")) dNil))) (dCons (dCl (s2 kIsX) (dCons (dVar 0) (dCons (dC (.glo "NotClosed")) dNil))) (dCons (dCl (s2 kIsX) (dCons (dVar 0) (dCons (dC (.glo "NotShown")) dNil))) (dCons (dCl (s2 kIsX) (dCons (dVar 0) (dCons (dC (.glo "NoLine")) dNil))) (dCons (dCl (s2 kIsX) (dCons (dVar 0) (dCons (dC (.glo "BadShape")) dNil))) (dCons (dCl (s2 kIsX) (dCons (dVar 0) (dCons (dC (.glo "BadNumber")) dNil))) (dCons (dCl (s2 kIsX) (dCons (dVar 0) (dCons (dC (.glo "BadCount")) dNil))) (dCons (dCl (s2 kIsX) (dCons (dVar 0) (dCons (dC (.glo "BadBlock")) dNil))) (dCons (dCl (s2 kIsX) (dCons (dVar 0) (dCons (dC (.glo "BadLetter")) dNil))) (dCons (dCl (s2 kIsX) (dCons (dVar 0) (dCons (dC (.glo "NotKept")) dNil))) (dCons (dCl (s2 kIsX) (dCons (dVar 0) (dCons (dC (.glo "Gap")) dNil))) (dCons (dCl (s2 kIsX) (dCons (dVar 0) (dCons (dC (.glo "Bare")) dNil))) (dCons (dCl (s2 kIsX) (dCons (dVar 0) (dCons (dC (.glo "NothingLeft")) dNil))) (dCons (dCl (s2 kIsX) (dCons (dVar 0) (dCons (dC (.glo "BadCut")) dNil))) (dCons (dCl (s2 kIsX) (dCons (dVar 0) (dCons (dC (.glo "BadOrder")) dNil))) (dCons (dCl (s2 kIsX) (dCons (dVar 0) (dCons (dC (.glo "BadTree")) dNil))) (dCons (dCl (s2 kIsX) (dCons (dVar 0) (dCons (dC (.glo "Knotted")) dNil))) (dCons (dCl (s2 kIsX) (dCons (dVar 0) (dCons (dC (.glo "BadHead")) dNil))) (dCons (dCl (s2 kIsX) (dCons (dVar 0) (dCons (dC (.glo "NotOne")) dNil))) (dCons (dCl (s2 kIsX) (dCons (dVar 0) (dCons (dC (.glo "Waiting")) dNil))) (dCons (dCl (s2 kIsX) (dCons (dVar 0) (dCons (dC (.glo "Differs")) dNil))) (dCons (dCl (s2 kIsX) (dCons (dVar 0) (dCons (dC (.glo "BadPaper")) dNil))) (dCons (dCl (s2 kIsX) (dCons (dVar 0) (dCons (dC (.glo "NothingBack")) dNil))) dNil)))))))))))))))))))))))))))))) (gN 1)) t__law_classes_0_1
abbrev t__law_classes : DTS := t__law_classes_0_0
theorem se__law_classes (w0 : W) : startE N__law_classes [w0] = [some w0, none, none, none] := rfl
theorem w__law_classes {X : Cx} {k : Nat} (h : FH N__law_classes (defScope st__law_classes) none k X) (n_NothingBack : ∃ C, X.mg (Str.ofString "NothingBack") = some (.ref C)) (n_BadPaper : ∃ C, X.mg (Str.ofString "BadPaper") = some (.ref C)) (n_Differs : ∃ C, X.mg (Str.ofString "Differs") = some (.ref C)) (n_Waiting : ∃ C, X.mg (Str.ofString "Waiting") = some (.ref C)) (n_NotOne : ∃ C, X.mg (Str.ofString "NotOne") = some (.ref C)) (n_BadHead : ∃ C, X.mg (Str.ofString "BadHead") = some (.ref C)) (n_Knotted : ∃ C, X.mg (Str.ofString "Knotted") = some (.ref C)) (n_BadTree : ∃ C, X.mg (Str.ofString "BadTree") = some (.ref C)) (n_BadOrder : ∃ C, X.mg (Str.ofString "BadOrder") = some (.ref C)) (n_BadCut : ∃ C, X.mg (Str.ofString "BadCut") = some (.ref C)) (n_NothingLeft : ∃ C, X.mg (Str.ofString "NothingLeft") = some (.ref C)) (n_Bare : ∃ C, X.mg (Str.ofString "Bare") = some (.ref C)) (n_Gap : ∃ C, X.mg (Str.ofString "Gap") = some (.ref C)) (n_NotKept : ∃ C, X.mg (Str.ofString "NotKept") = some (.ref C)) (n_BadLetter : ∃ C, X.mg (Str.ofString "BadLetter") = some (.ref C)) (n_BadBlock : ∃ C, X.mg (Str.ofString "BadBlock") = some (.ref C)) (n_BadCount : ∃ C, X.mg (Str.ofString "BadCount") = some (.ref C)) (n_BadNumber : ∃ C, X.mg (Str.ofString "BadNumber") = some (.ref C)) (n_BadShape : ∃ C, X.mg (Str.ofString "BadShape") = some (.ref C)) (n_NoLine : ∃ C, X.mg (Str.ofString "NoLine") = some (.ref C)) (n_NotShown : ∃ C, X.mg (Str.ofString "NotShown") = some (.ref C)) (n_NotClosed : ∃ C, X.mg (Str.ofString "NotClosed") = some (.ref C)) (n_BadLot : ∃ C, X.mg (Str.ofString "BadLot") = some (.ref C)) (n_BadKind : ∃ C, X.mg (Str.ofString "BadKind") = some (.ref C)) (n_NotAssociative : ∃ C, X.mg (Str.ofString "NotAssociative") = some (.ref C)) (n_BadTable : ∃ C, X.mg (Str.ofString "BadTable") = some (.ref C)) (n_TooMany : ∃ C, X.mg (Str.ofString "TooMany") = some (.ref C)) (n_Strange : ∃ C, X.mg (Str.ofString "Strange") = some (.ref C)) (n_BadLine : ∃ C, X.mg (Str.ofString "BadLine") = some (.ref C)) (m_range : X.mg "range" = none) (m_isinstance : X.mg "isinstance" = none) : DSs X (defBody st__law_classes) (t__law_classes) :=
    (dss_cons (ds_asg rfl rfl tg_name (de_lst (da_cons pl_call (h.isx (by decide +kernel) m_isinstance (pls_cons pl_name (pls_cons pl_name pls_nil)) (da_cons pl_name (h.var (i := 0) (by decide +kernel)) (da_cons pl_name (h.cls (by decide +kernel) n_BadLine) da_nil))) (da_cons pl_call (h.isx (by decide +kernel) m_isinstance (pls_cons pl_name (pls_cons pl_name pls_nil)) (da_cons pl_name (h.var (i := 0) (by decide +kernel)) (da_cons pl_name (h.cls (by decide +kernel) n_Strange) da_nil))) (da_cons pl_call (h.isx (by decide +kernel) m_isinstance (pls_cons pl_name (pls_cons pl_name pls_nil)) (da_cons pl_name (h.var (i := 0) (by decide +kernel)) (da_cons pl_name (h.cls (by decide +kernel) n_TooMany) da_nil))) (da_cons pl_call (h.isx (by decide +kernel) m_isinstance (pls_cons pl_name (pls_cons pl_name pls_nil)) (da_cons pl_name (h.var (i := 0) (by decide +kernel)) (da_cons pl_name (h.cls (by decide +kernel) n_BadTable) da_nil))) (da_cons pl_call (h.isx (by decide +kernel) m_isinstance (pls_cons pl_name (pls_cons pl_name pls_nil)) (da_cons pl_name (h.var (i := 0) (by decide +kernel)) (da_cons pl_name (h.cls (by decide +kernel) n_NotAssociative) da_nil))) (da_cons pl_call (h.isx (by decide +kernel) m_isinstance (pls_cons pl_name (pls_cons pl_name pls_nil)) (da_cons pl_name (h.var (i := 0) (by decide +kernel)) (da_cons pl_name (h.cls (by decide +kernel) n_BadKind) da_nil))) (da_cons pl_call (h.isx (by decide +kernel) m_isinstance (pls_cons pl_name (pls_cons pl_name pls_nil)) (da_cons pl_name (h.var (i := 0) (by decide +kernel)) (da_cons pl_name (h.cls (by decide +kernel) n_BadLot) da_nil))) (da_cons pl_call (h.isx (by decide +kernel) m_isinstance (pls_cons pl_name (pls_cons pl_name pls_nil)) (da_cons pl_name (h.var (i := 0) (by decide +kernel)) (da_cons pl_name (h.cls (by decide +kernel) n_NotClosed) da_nil))) (da_cons pl_call (h.isx (by decide +kernel) m_isinstance (pls_cons pl_name (pls_cons pl_name pls_nil)) (da_cons pl_name (h.var (i := 0) (by decide +kernel)) (da_cons pl_name (h.cls (by decide +kernel) n_NotShown) da_nil))) (da_cons pl_call (h.isx (by decide +kernel) m_isinstance (pls_cons pl_name (pls_cons pl_name pls_nil)) (da_cons pl_name (h.var (i := 0) (by decide +kernel)) (da_cons pl_name (h.cls (by decide +kernel) n_NoLine) da_nil))) (da_cons pl_call (h.isx (by decide +kernel) m_isinstance (pls_cons pl_name (pls_cons pl_name pls_nil)) (da_cons pl_name (h.var (i := 0) (by decide +kernel)) (da_cons pl_name (h.cls (by decide +kernel) n_BadShape) da_nil))) (da_cons pl_call (h.isx (by decide +kernel) m_isinstance (pls_cons pl_name (pls_cons pl_name pls_nil)) (da_cons pl_name (h.var (i := 0) (by decide +kernel)) (da_cons pl_name (h.cls (by decide +kernel) n_BadNumber) da_nil))) (da_cons pl_call (h.isx (by decide +kernel) m_isinstance (pls_cons pl_name (pls_cons pl_name pls_nil)) (da_cons pl_name (h.var (i := 0) (by decide +kernel)) (da_cons pl_name (h.cls (by decide +kernel) n_BadCount) da_nil))) (da_cons pl_call (h.isx (by decide +kernel) m_isinstance (pls_cons pl_name (pls_cons pl_name pls_nil)) (da_cons pl_name (h.var (i := 0) (by decide +kernel)) (da_cons pl_name (h.cls (by decide +kernel) n_BadBlock) da_nil))) (da_cons pl_call (h.isx (by decide +kernel) m_isinstance (pls_cons pl_name (pls_cons pl_name pls_nil)) (da_cons pl_name (h.var (i := 0) (by decide +kernel)) (da_cons pl_name (h.cls (by decide +kernel) n_BadLetter) da_nil))) (da_cons pl_call (h.isx (by decide +kernel) m_isinstance (pls_cons pl_name (pls_cons pl_name pls_nil)) (da_cons pl_name (h.var (i := 0) (by decide +kernel)) (da_cons pl_name (h.cls (by decide +kernel) n_NotKept) da_nil))) (da_cons pl_call (h.isx (by decide +kernel) m_isinstance (pls_cons pl_name (pls_cons pl_name pls_nil)) (da_cons pl_name (h.var (i := 0) (by decide +kernel)) (da_cons pl_name (h.cls (by decide +kernel) n_Gap) da_nil))) (da_cons pl_call (h.isx (by decide +kernel) m_isinstance (pls_cons pl_name (pls_cons pl_name pls_nil)) (da_cons pl_name (h.var (i := 0) (by decide +kernel)) (da_cons pl_name (h.cls (by decide +kernel) n_Bare) da_nil))) (da_cons pl_call (h.isx (by decide +kernel) m_isinstance (pls_cons pl_name (pls_cons pl_name pls_nil)) (da_cons pl_name (h.var (i := 0) (by decide +kernel)) (da_cons pl_name (h.cls (by decide +kernel) n_NothingLeft) da_nil))) (da_cons pl_call (h.isx (by decide +kernel) m_isinstance (pls_cons pl_name (pls_cons pl_name pls_nil)) (da_cons pl_name (h.var (i := 0) (by decide +kernel)) (da_cons pl_name (h.cls (by decide +kernel) n_BadCut) da_nil))) (da_cons pl_call (h.isx (by decide +kernel) m_isinstance (pls_cons pl_name (pls_cons pl_name pls_nil)) (da_cons pl_name (h.var (i := 0) (by decide +kernel)) (da_cons pl_name (h.cls (by decide +kernel) n_BadOrder) da_nil))) (da_cons pl_call (h.isx (by decide +kernel) m_isinstance (pls_cons pl_name (pls_cons pl_name pls_nil)) (da_cons pl_name (h.var (i := 0) (by decide +kernel)) (da_cons pl_name (h.cls (by decide +kernel) n_BadTree) da_nil))) (da_cons pl_call (h.isx (by decide +kernel) m_isinstance (pls_cons pl_name (pls_cons pl_name pls_nil)) (da_cons pl_name (h.var (i := 0) (by decide +kernel)) (da_cons pl_name (h.cls (by decide +kernel) n_Knotted) da_nil))) (da_cons pl_call (h.isx (by decide +kernel) m_isinstance (pls_cons pl_name (pls_cons pl_name pls_nil)) (da_cons pl_name (h.var (i := 0) (by decide +kernel)) (da_cons pl_name (h.cls (by decide +kernel) n_BadHead) da_nil))) (da_cons pl_call (h.isx (by decide +kernel) m_isinstance (pls_cons pl_name (pls_cons pl_name pls_nil)) (da_cons pl_name (h.var (i := 0) (by decide +kernel)) (da_cons pl_name (h.cls (by decide +kernel) n_NotOne) da_nil))) (da_cons pl_call (h.isx (by decide +kernel) m_isinstance (pls_cons pl_name (pls_cons pl_name pls_nil)) (da_cons pl_name (h.var (i := 0) (by decide +kernel)) (da_cons pl_name (h.cls (by decide +kernel) n_Waiting) da_nil))) (da_cons pl_call (h.isx (by decide +kernel) m_isinstance (pls_cons pl_name (pls_cons pl_name pls_nil)) (da_cons pl_name (h.var (i := 0) (by decide +kernel)) (da_cons pl_name (h.cls (by decide +kernel) n_Differs) da_nil))) (da_cons pl_call (h.isx (by decide +kernel) m_isinstance (pls_cons pl_name (pls_cons pl_name pls_nil)) (da_cons pl_name (h.var (i := 0) (by decide +kernel)) (da_cons pl_name (h.cls (by decide +kernel) n_BadPaper) da_nil))) (da_cons pl_call (h.isx (by decide +kernel) m_isinstance (pls_cons pl_name (pls_cons pl_name pls_nil)) (da_cons pl_name (h.var (i := 0) (by decide +kernel)) (da_cons pl_name (h.cls (by decide +kernel) n_NothingBack) da_nil))) da_nil)))))))))))))))))))))))))))))) (h.tg (by decide +kernel)))
      (dss_cons (ds_asg rfl rfl tg_name de_str (h.tg (by decide +kernel)))
      (dss_cons (ds_asg rfl rfl tg_name (de_add (h.var (i := 2) (by decide +kernel)) de_str) (h.tg (by decide +kernel)))
      (dss_cons (ds_asg rfl rfl tg_name (h.split ab_bin (by decide +kernel) (pls_cons pl_con pls_nil) (de_add (h.var (i := 2) (by decide +kernel)) de_str) (da_cons pl_con de_str da_nil)) (h.tg (by decide +kernel)))
      (dss_cons (ds_ret (h.compR (own := [("k", 3)]) (sl := [3]) (by decide +kernel) (by decide +kernel) (by decide +kernel) m_range pl_con de_int (fun _ h1 e0_1 e0_2 e0_3 e0_4 e0_5 => ⟨(h1.tg (by decide +kernel)), (dts_one (dt_tru tr_sub (de_ix pl_name (h1.var (i := 1) (by decide +kernel)) (h1.var (i := 3) (by decide +kernel))))), (de_ix pl_name (h1.var (i := 2) (by decide +kernel)) (h1.var (i := 3) (by decide +kernel)))⟩)))
      dss_nil)))))
/-! _law_caught -/
def N__law_caught : List Str := ["e", "worth"]
abbrev st__law_caught : Stmt := top 46
abbrev ps__law_caught : List Str := ["e"]
theorem sc__law_caught : FnScope N__law_caught ps__law_caught (defScope st__law_caught) := ⟨rfl, rfl, rfl, by decide +kernel, rfl, by decide +kernel, by decide +kernel⟩
def t__law_caught_0_1 : DTS := dSeq (dRet (dLst (dCons (dC (.str [114, 101, 102, 117, 115, 101, 100])) (dCons (dCl (s2 kIsX) (dCons (dVar 0) (dCons (dC (.ty "ValueError")) dNil))) (dCons (dCallH 1 S__law_classes (dCons (dVar 0) dNil)) (dCons (dVar 1) dNil)))))) dNext
def t__law_caught_0_0 : DTS := dSeq (dAsg (dLst dNil) (gN 1)) t__law_caught_0_1
abbrev t__law_caught : DTS := t__law_caught_0_0
theorem se__law_caught (w0 : W) : startE N__law_caught [w0] = [some w0, none] := rfl
theorem w__law_caught {X : Cx} {k : Nat} (h : FH N__law_caught (defScope st__law_caught) none k X) {l__law_classes : Nat} (c__law_classes : DFnH X.prog X.w X.K X.mg X.base "_law_classes" ps__law_classes l__law_classes S__law_classes) (j__law_classes : Nat.ble l__law_classes k = true) (m_ValueError : X.mg "ValueError" = none) (m_isinstance : X.mg "isinstance" = none) : DSs X (defBody st__law_caught) (t__law_caught) :=
    (dss_cons (ds_asg rfl rfl tg_name (de_lst da_nil) (h.tg (by decide +kernel)))
      (dss_cons (ds_ret (de_lst (da_cons pl_con de_str (da_cons pl_call (h.isx (by decide +kernel) m_isinstance (pls_cons pl_name (pls_cons pl_name pls_nil)) (da_cons pl_name (h.var (i := 0) (by decide +kernel)) (da_cons pl_name (h.ty (by decide +kernel) m_ValueError b_ValueError) da_nil))) (da_cons pl_call (h.call c__law_classes j__law_classes (by decide +kernel) (pls_cons pl_name pls_nil) (da_cons pl_name (h.var (i := 0) (by decide +kernel)) da_nil)) (da_cons pl_name (h.var (i := 1) (by decide +kernel)) da_nil))))))
      dss_nil))
/-! _law_due -/
def N__law_due : List Str := ["name", "worth"]
abbrev st__law_due : Stmt := top 47
abbrev ps__law_due : List Str := ["name", "worth"]
theorem sc__law_due : FnScope N__law_due ps__law_due (defScope st__law_due) := ⟨rfl, rfl, rfl, by decide +kernel, rfl, by decide +kernel, by decide +kernel⟩
def t__law_due_0_0 : DTS := dSeq (dRet (dLst (dCons (dC (.str [114, 101, 102, 117, 115, 101, 100])) (dCons (dC (.bl true)) (dCons (dLst (dCons (dVar 0) dNil)) (dCons (dVar 1) dNil)))))) dNext
abbrev t__law_due : DTS := t__law_due_0_0
theorem se__law_due (w0 w1 : W) : startE N__law_due [w0, w1] = [some w0, some w1] := rfl
theorem w__law_due {X : Cx} {k : Nat} (h : FX N__law_due (defScope st__law_due) none k X) (ho : PassesOwn (model X.prog X.w) X.A X.env X.xe) : DSs X (defBody st__law_due) (t__law_due) :=
    (dss_cons (ds_ret (de_lst (da_cons pl_con de_str (da_cons pl_con de_bl (da_cons pl_lst (de_lst (da_cons pl_name (h.var (i := 0) (by decide +kernel)) da_nil)) (da_cons pl_name (h.var (i := 1) (by decide +kernel)) da_nil))))))
      dss_nil)
/-! _law_answer -/
def N__law_answer : List Str := ["count", "low", "high", "e"]
abbrev st__law_answer : Stmt := top 48
abbrev ps__law_answer : List Str := ["count", "low", "high"]
theorem sc__law_answer : FnScope N__law_answer ps__law_answer (defScope st__law_answer) := ⟨rfl, rfl, rfl, by decide +kernel, rfl, by decide +kernel, by decide +kernel⟩
def t__law_answer_1_0 : DTS := dSeq (dRet (dLst (dCons (dC (.str [97, 110, 115, 119, 101, 114])) (dCons (dCall 3 S_aligned_spans (dCons (dVar 0) (dCons (dVar 1) (dCons (dVar 2) dNil)))) dNil)))) dNext
def t__law_answer_2_0 : DTS := dSeq (dRet (dCallH 1 S__law_caught (dCons (dVar 3) dNil))) dNext
def t__law_answer_0_0 : DTS := dSeq (dTryAs "CornerError" 3 t__law_answer_1_0 t__law_answer_2_0) dNext
abbrev t__law_answer : DTS := t__law_answer_0_0
theorem se__law_answer (w0 w1 w2 : W) : startE N__law_answer [w0, w1, w2] = [some w0, some w1, some w2, none] := rfl
theorem w__law_answer {X : Cx} {k : Nat} (h : FX N__law_answer (defScope st__law_answer) none k X) (ho : PassesOwn (model X.prog X.w) X.A X.env X.xe) (n_CornerError : ∃ C, X.mg (Str.ofString "CornerError") = some (.ref C)) {l_aligned_spans : Nat} (c_aligned_spans : DFn X.prog X.w X.K X.mg X.base "aligned_spans" ps_aligned_spans l_aligned_spans S_aligned_spans) (j_aligned_spans : Nat.ble l_aligned_spans k = true) {l__law_caught : Nat} (c__law_caught : DFnH X.prog X.w X.K X.mg X.base "_law_caught" ps__law_caught l__law_caught S__law_caught) (j__law_caught : Nat.ble l__law_caught k = true) : DSs X (defBody st__law_answer) (t__law_answer) :=
    (dss_cons (h.tryAs (i := 3) (y := "CornerError") (by decide +kernel) (by decide +kernel) (by decide +kernel) (by decide +kernel) n_CornerError (fun _ h1 ho1 e0_1 e0_2 e0_3 e0_4 e0_5 => (dss_cons (ds_ret (de_lst (da_cons pl_con de_str (da_cons pl_call (h1.call (c_aligned_spans.on e0_1 e0_2 e0_3 e0_4 e0_5) j_aligned_spans (by decide +kernel) (pls_cons pl_name (pls_cons pl_name (pls_cons pl_name pls_nil))) (da_cons pl_name (h1.var (i := 0) (by decide +kernel)) (da_cons pl_name (h1.var (i := 1) (by decide +kernel)) (da_cons pl_name (h1.var (i := 2) (by decide +kernel)) da_nil)))) da_nil))))
      dss_nil)) (fun _ h1 e0_1 e0_2 e0_3 e0_4 e0_5 => (dss_cons (ds_ret (h1.call (c__law_caught.on e0_1 e0_2 e0_3 e0_4 e0_5) j__law_caught (by decide +kernel) (pls_cons pl_name pls_nil) (da_cons pl_name (h1.var (i := 3) (by decide +kernel)) da_nil)))
      dss_nil)))
      dss_nil)
/-! _law_levels -/
def N__law_levels : List Str := ["count", "e"]
abbrev st__law_levels : Stmt := top 49
abbrev ps__law_levels : List Str := ["count"]
theorem sc__law_levels : FnScope N__law_levels ps__law_levels (defScope st__law_levels) := ⟨rfl, rfl, rfl, by decide +kernel, rfl, by decide +kernel, by decide +kernel⟩
def t__law_levels_1_0 : DTS := dSeq (dRet (dLst (dCons (dC (.str [97, 110, 115, 119, 101, 114])) (dCons (dCall 1 S_levels (dCons (dVar 0) dNil)) dNil)))) dNext
def t__law_levels_2_0 : DTS := dSeq (dRet (dCallH 1 S__law_caught (dCons (dVar 1) dNil))) dNext
def t__law_levels_0_0 : DTS := dSeq (dTryAs "CornerError" 1 t__law_levels_1_0 t__law_levels_2_0) dNext
abbrev t__law_levels : DTS := t__law_levels_0_0
theorem se__law_levels (w0 : W) : startE N__law_levels [w0] = [some w0, none] := rfl
theorem w__law_levels {X : Cx} {k : Nat} (h : FX N__law_levels (defScope st__law_levels) none k X) (ho : PassesOwn (model X.prog X.w) X.A X.env X.xe) (n_CornerError : ∃ C, X.mg (Str.ofString "CornerError") = some (.ref C)) {l_levels : Nat} (c_levels : DFn X.prog X.w X.K X.mg X.base "levels" ps_levels l_levels S_levels) (j_levels : Nat.ble l_levels k = true) {l__law_caught : Nat} (c__law_caught : DFnH X.prog X.w X.K X.mg X.base "_law_caught" ps__law_caught l__law_caught S__law_caught) (j__law_caught : Nat.ble l__law_caught k = true) : DSs X (defBody st__law_levels) (t__law_levels) :=
    (dss_cons (h.tryAs (i := 1) (y := "CornerError") (by decide +kernel) (by decide +kernel) (by decide +kernel) (by decide +kernel) n_CornerError (fun _ h1 ho1 e0_1 e0_2 e0_3 e0_4 e0_5 => (dss_cons (ds_ret (de_lst (da_cons pl_con de_str (da_cons pl_call (h1.call (c_levels.on e0_1 e0_2 e0_3 e0_4 e0_5) j_levels (by decide +kernel) (pls_cons pl_name pls_nil) (da_cons pl_name (h1.var (i := 0) (by decide +kernel)) da_nil)) da_nil))))
      dss_nil)) (fun _ h1 e0_1 e0_2 e0_3 e0_4 e0_5 => (dss_cons (ds_ret (h1.call (c__law_caught.on e0_1 e0_2 e0_3 e0_4 e0_5) j__law_caught (by decide +kernel) (pls_cons pl_name pls_nil) (da_cons pl_name (h1.var (i := 1) (by decide +kernel)) da_nil)))
      dss_nil)))
      dss_nil)
/-! _law_right -/
def N__law_right : List Str := ["told", "low", "high", "place", "span", "wide", "start"]
abbrev st__law_right : Stmt := top 50
abbrev ps__law_right : List Str := ["told", "low", "high"]
theorem sc__law_right : FnScope N__law_right ps__law_right (defScope st__law_right) := ⟨rfl, rfl, rfl, by decide +kernel, rfl, by decide +kernel, by decide +kernel⟩
def t__law_right_0_3 : DTS := dSeq (dRet (dOp (sCmp .Eq) (dVar 3) (dVar 2))) dNext
def t__law_right_1_5 : DTS := dSeq (dAsg (dOp sIx (dVar 4) (dC (.int 1))) (gN 3)) dNext
def t__law_right_2_0 : DTS := dSeq (dRet (dC (.bl false))) dNext
def t__law_right_1_4 : DTS := dSeq (dIf (dAndT (dBl (dOp (sCmp .GtE) (dVar 6) (dVar 1))) (dBl (dOp (sCmp .LtE) (dOp sAdd (dVar 6) (dOp sMul (dC (.int 2)) (dVar 5))) (dVar 2)))) t__law_right_2_0 dNext) t__law_right_1_5
def t__law_right_1_3 : DTS := dSeq (dAsg (dOp (sInt (fun _ _ => True) fun i j => i - j) (dVar 3) (dOp (sInt (fun _ j => 0 < j) fun i j => i % j) (dCl (s1 kInt) (dCons (dVar 3) dNil)) (dOp sMul (dC (.int 2)) (dVar 5)))) (gN 6)) t__law_right_1_4
def t__law_right_3_0 : DTS := dSeq (dRet (dC (.bl false))) dNext
def t__law_right_1_2 : DTS := dSeq (dIf (dOrT (dBl (dOp (sCmp .NotEq) (dOp sIx (dVar 4) (dC (.int 0))) (dVar 3))) (dOrT (dBl (dOp (sCmp .Gt) (dOp sIx (dVar 4) (dC (.int 1))) (dVar 2))) (dOrT (dBl (dOp (sCmp .NotIn) (dVar 5) (dLst (dCons (dC (.int 1)) (dCons (dC (.int 2)) (dCons (dC (.int 4)) (dCons (dC (.int 8)) (dCons (dC (.int 16)) dNil)))))))) (dBl (dOp (sCmp .NotEq) (dOp (sInt (fun _ j => 0 < j) fun i j => i % j) (dCl (s1 kInt) (dCons (dVar 3) dNil)) (dVar 5)) (dC (.int 0))))))) t__law_right_3_0 dNext) t__law_right_1_3
def t__law_right_1_1 : DTS := dSeq (dAsg (dOp (sInt (fun _ _ => True) fun i j => i - j) (dOp sIx (dVar 4) (dC (.int 1))) (dOp sIx (dVar 4) (dC (.int 0)))) (gN 5)) t__law_right_1_2
def t__law_right_4_0 : DTS := dSeq (dRet (dC (.bl false))) dNext
def t__law_right_1_0 : DTS := dSeq (dIf (dOrT (dNotT (dTru (dCl (s2 kIsi) (dCons (dVar 4) (dCons (dC (.ty "tuple")) dNil))))) (dOrT (dBl (dOp (sCmp .NotEq) (dCl (s1 kLenN) (dCons (dVar 4) dNil)) (dC (.int 2)))) (dOrT (dNotT (dTru (dCall 1 S__law_whole (dCons (dOp sIx (dVar 4) (dC (.int 0))) dNil)))) (dNotT (dTru (dCall 1 S__law_whole (dCons (dOp sIx (dVar 4) (dC (.int 1))) dNil))))))) t__law_right_4_0 dNext) t__law_right_1_1
def t__law_right_0_2 : DTS := dSeq (dFor (dRow (dOp sIx (dVar 0) (dC (.int 1)))) (gN 4) t__law_right_1_0) t__law_right_0_3
def t__law_right_0_1 : DTS := dSeq (dAsg (dVar 1) (gN 3)) t__law_right_0_2
def t__law_right_5_0 : DTS := dSeq (dRet (dC (.bl false))) dNext
def t__law_right_0_0 : DTS := dSeq (dIf (dOrT (dBl (dOp (sCmp .NotEq) (dOp sIx (dVar 0) (dC (.int 0))) (dC (.str [97, 110, 115, 119, 101, 114])))) (dNotT (dTru (dCl (s2 kIsi) (dCons (dOp sIx (dVar 0) (dC (.int 1))) (dCons (dC (.ty "list")) dNil)))))) t__law_right_5_0 dNext) t__law_right_0_1
abbrev t__law_right : DTS := t__law_right_0_0
theorem se__law_right (w0 w1 w2 : W) : startE N__law_right [w0, w1, w2] = [some w0, some w1, some w2, none, none, none, none] := rfl
theorem w__law_right {X : Cx} {k : Nat} (h : FX N__law_right (defScope st__law_right) none k X) (ho : PassesOwn (model X.prog X.w) X.A X.env X.xe) {l__law_whole : Nat} (c__law_whole : DFn X.prog X.w X.K X.mg X.base "_law_whole" ps__law_whole l__law_whole S__law_whole) (j__law_whole : Nat.ble l__law_whole k = true) (m_int : X.mg "int" = none) (m_len : X.mg "len" = none) (m_tuple : X.mg "tuple" = none) (m_isinstance : X.mg "isinstance" = none) (m_list : X.mg "list" = none) : DSs X (defBody st__law_right) (t__law_right) :=
    (dss_cons (ds_if (DW.dt (dw_or (h.tcmp .NotEq pl_con (de_ix pl_con (h.var (i := 0) (by decide +kernel)) de_int) de_str) (dw_or1 (dt_not (dt_tru tr_call (h.isi (by decide +kernel) m_isinstance (pls_cons pl_sub (pls_cons pl_name pls_nil)) (da_cons pl_sub (de_ix pl_con (h.var (i := 0) (by decide +kernel)) de_int) (da_cons pl_name (h.ty (by decide +kernel) m_list b_list) da_nil)))))))) (dss_cons (ds_ret de_bl)
      dss_nil) dss_nil)
      (dss_cons (ds_asg rfl rfl tg_name (h.var (i := 1) (by decide +kernel)) (h.tg (by decide +kernel)))
      (dss_cons (h.for_ ho pl_sub (di_row (de_ix pl_con (h.var (i := 0) (by decide +kernel)) de_int)) (h.tg (by decide +kernel)) (dss_cons (ds_if (DW.dt (dw_or (dt_not (dt_tru tr_call (h.isi (by decide +kernel) m_isinstance (pls_cons pl_name (pls_cons pl_name pls_nil)) (da_cons pl_name (h.var (i := 4) (by decide +kernel)) (da_cons pl_name (h.ty (by decide +kernel) m_tuple b_tuple) da_nil))))) (dw_or (h.tcmp .NotEq pl_con (h.len (by decide +kernel) m_len (pls_cons pl_name pls_nil) (da_cons pl_name (h.var (i := 4) (by decide +kernel)) da_nil)) de_int) (dw_or (dt_not (dt_tru tr_call (h.call c__law_whole j__law_whole (by decide +kernel) (pls_cons pl_sub pls_nil) (da_cons pl_sub (de_ix pl_con (h.var (i := 4) (by decide +kernel)) de_int) da_nil)))) (dw_or1 (dt_not (dt_tru tr_call (h.call c__law_whole j__law_whole (by decide +kernel) (pls_cons pl_sub pls_nil) (da_cons pl_sub (de_ix pl_con (h.var (i := 4) (by decide +kernel)) de_int) da_nil))))))))) (dss_cons (ds_ret de_bl)
      dss_nil) dss_nil)
      (dss_cons (ds_asg rfl rfl tg_name (de_sub (de_ix pl_con (h.var (i := 4) (by decide +kernel)) de_int) (de_ix pl_con (h.var (i := 4) (by decide +kernel)) de_int)) (h.tg (by decide +kernel)))
      (dss_cons (ds_if (DW.dt (dw_or (h.tcmp .NotEq pl_name (de_ix pl_con (h.var (i := 4) (by decide +kernel)) de_int) (h.var (i := 3) (by decide +kernel))) (dw_or (h.tcmp .Gt pl_name (de_ix pl_con (h.var (i := 4) (by decide +kernel)) de_int) (h.var (i := 2) (by decide +kernel))) (dw_or (h.tcmp .NotIn pl_lst (h.var (i := 5) (by decide +kernel)) (de_lst (da_cons pl_con de_int (da_cons pl_con de_int (da_cons pl_con de_int (da_cons pl_con de_int (da_cons pl_con de_int da_nil))))))) (dw_or1 (h.tcmp .NotEq pl_con (de_mod (h.int (by decide +kernel) m_int (pls_cons pl_name pls_nil) (da_cons pl_name (h.var (i := 3) (by decide +kernel)) da_nil)) (h.var (i := 5) (by decide +kernel))) de_int)))))) (dss_cons (ds_ret de_bl)
      dss_nil) dss_nil)
      (dss_cons (ds_asg rfl rfl tg_name (de_sub (h.var (i := 3) (by decide +kernel)) (de_mod (h.int (by decide +kernel) m_int (pls_cons pl_name pls_nil) (da_cons pl_name (h.var (i := 3) (by decide +kernel)) da_nil)) (de_mul de_int (h.var (i := 5) (by decide +kernel))))) (h.tg (by decide +kernel)))
      (dss_cons (ds_if (DW.dt (dw_and (h.tcmp .GtE pl_name (h.var (i := 6) (by decide +kernel)) (h.var (i := 1) (by decide +kernel))) (dw_and1 (h.tcmp .LtE pl_name (de_add (h.var (i := 6) (by decide +kernel)) (de_mul de_int (h.var (i := 5) (by decide +kernel)))) (h.var (i := 2) (by decide +kernel)))))) (dss_cons (ds_ret de_bl)
      dss_nil) dss_nil)
      (dss_cons (ds_asg rfl rfl tg_name (de_ix pl_con (h.var (i := 4) (by decide +kernel)) de_int) (h.tg (by decide +kernel)))
      dss_nil)))))))
      (dss_cons (ds_ret (h.cmp .Eq pl_name (h.var (i := 3) (by decide +kernel)) (h.var (i := 2) (by decide +kernel))))
      dss_nil))))
/-! _law_triple -/
def N__law_triple : List Str := ["store", "count", "low", "high", "choice", "bent"]
abbrev st__law_triple : Stmt := top 51
abbrev ps__law_triple : List Str := ["store", "count"]
theorem sc__law_triple : FnScope N__law_triple ps__law_triple (defScope st__law_triple) := ⟨rfl, rfl, rfl, by decide +kernel, rfl, by decide +kernel, by decide +kernel⟩
def t__law_triple_0_12 : DTS := dSeq (dRet (dTup (dCons (dOp sIx (dVar 5) (dC (.int 0))) (dCons (dOp sIx (dVar 5) (dC (.int 1))) (dCons (dOp sIx (dVar 5) (dC (.int 2))) dNil))))) dNext
def t__law_triple_1_0 : DTS := dSeq (dAsg (dCall 1 S__law_wild (dCons (dVar 0) dNil)) (gSub (dVar 5) (dCall 2 S__law_take (dCons (dVar 0) (dCons (dC (.int 3)) dNil))))) dNext
def t__law_triple_0_11 : DTS := dSeq (dIf (dBl (dOp (sCmp .Eq) (dVar 4) (dC (.int 6)))) t__law_triple_1_0 dNext) t__law_triple_0_12
def t__law_triple_0_10 : DTS := dSeq (dAsg (dCall 1 S__law_wild (dCons (dVar 0) dNil)) (gSub (dVar 5) (dCall 2 S__law_take (dCons (dVar 0) (dCons (dC (.int 3)) dNil))))) t__law_triple_0_11
def t__law_triple_0_9 : DTS := dSeq (dAsg (dLst (dCons (dVar 1) (dCons (dVar 2) (dCons (dVar 3) dNil)))) (gN 5)) t__law_triple_0_10
def t__law_triple_2_0 : DTS := dSeq (dRet (dTup (dCons (dC (.int 0)) (dCons (dC (.int 0)) (dCons (dCall 2 S__law_take (dCons (dVar 0) (dCons (dC (.int 2)) dNil))) dNil))))) dNext
def t__law_triple_0_8 : DTS := dSeq (dIf (dBl (dOp (sCmp .Eq) (dVar 4) (dC (.int 5)))) t__law_triple_2_0 dNext) t__law_triple_0_9
def t__law_triple_3_0 : DTS := dSeq (dRet (dTup (dCons (dC (.int 17)) (dCons (dVar 2) (dCons (dVar 3) dNil))))) dNext
def t__law_triple_0_7 : DTS := dSeq (dIf (dBl (dOp (sCmp .Eq) (dVar 4) (dC (.int 4)))) t__law_triple_3_0 dNext) t__law_triple_0_8
def t__law_triple_4_0 : DTS := dSeq (dRet (dTup (dCons (dVar 1) (dCons (dVar 2) (dCons (dOp sAdd (dOp sAdd (dVar 1) (dC (.int 1))) (dCall 2 S__law_take (dCons (dVar 0) (dCons (dC (.int 2)) dNil)))) dNil))))) dNext
def t__law_triple_0_6 : DTS := dSeq (dIf (dBl (dOp (sCmp .Eq) (dVar 4) (dC (.int 3)))) t__law_triple_4_0 dNext) t__law_triple_0_7
def t__law_triple_5_0 : DTS := dSeq (dRet (dTup (dCons (dVar 1) (dCons (dOp (sInt (fun _ _ => True) fun i j => i - j) (dOp (sInt (fun _ _ => True) fun i j => i - j) (dC (.int 0)) (dC (.int 1))) (dCall 2 S__law_take (dCons (dVar 0) (dCons (dC (.int 3)) dNil)))) (dCons (dVar 3) dNil))))) dNext
def t__law_triple_0_5 : DTS := dSeq (dIf (dBl (dOp (sCmp .Eq) (dVar 4) (dC (.int 2)))) t__law_triple_5_0 dNext) t__law_triple_0_6
def t__law_triple_6_0 : DTS := dSeq (dRet (dTup (dCons (dVar 1) (dCons (dVar 2) (dCons (dVar 2) dNil))))) dNext
def t__law_triple_0_4 : DTS := dSeq (dIf (dBl (dOp (sCmp .Eq) (dVar 4) (dC (.int 1)))) t__law_triple_6_0 dNext) t__law_triple_0_5
def t__law_triple_7_0 : DTS := dSeq (dRet (dTup (dCons (dVar 1) (dCons (dVar 3) (dCons (dVar 2) dNil))))) dNext
def t__law_triple_0_3 : DTS := dSeq (dIf (dBl (dOp (sCmp .Eq) (dVar 4) (dC (.int 0)))) t__law_triple_7_0 dNext) t__law_triple_0_4
def t__law_triple_0_2 : DTS := dSeq (dAsg (dCall 2 S__law_take (dCons (dVar 0) (dCons (dC (.int 8)) dNil))) (gN 4)) t__law_triple_0_3
def t__law_triple_0_1 : DTS := dSeq (dAsg (dOp sAdd (dOp sAdd (dVar 2) (dC (.int 1))) (dCall 2 S__law_take (dCons (dVar 0) (dCons (dOp (sInt (fun _ _ => True) fun i j => i - j) (dVar 1) (dVar 2)) dNil)))) (gN 3)) t__law_triple_0_2
def t__law_triple_0_0 : DTS := dSeq (dAsg (dCall 2 S__law_take (dCons (dVar 0) (dCons (dVar 1) dNil))) (gN 2)) t__law_triple_0_1
abbrev t__law_triple : DTS := t__law_triple_0_0
theorem se__law_triple (w0 w1 : W) : startE N__law_triple [w0, w1] = [some w0, some w1, none, none, none, none] := rfl
theorem w__law_triple {X : Cx} {k : Nat} (h : FX N__law_triple (defScope st__law_triple) none k X) (ho : PassesOwn (model X.prog X.w) X.A X.env X.xe) {l__law_wild : Nat} (c__law_wild : DFn X.prog X.w X.K X.mg X.base "_law_wild" ps__law_wild l__law_wild S__law_wild) (j__law_wild : Nat.ble l__law_wild k = true) {l__law_take : Nat} (c__law_take : DFn X.prog X.w X.K X.mg X.base "_law_take" ps__law_take l__law_take S__law_take) (j__law_take : Nat.ble l__law_take k = true) : DSs X (defBody st__law_triple) (t__law_triple) :=
    (dss_cons (ds_asg rfl rfl tg_name (h.call c__law_take j__law_take (by decide +kernel) (pls_cons pl_name (pls_cons pl_name pls_nil)) (da_cons pl_name (h.var (i := 0) (by decide +kernel)) (da_cons pl_name (h.var (i := 1) (by decide +kernel)) da_nil))) (h.tg (by decide +kernel)))
      (dss_cons (ds_asg rfl rfl tg_name (de_add (de_add (h.var (i := 2) (by decide +kernel)) de_int) (h.call c__law_take j__law_take (by decide +kernel) (pls_cons pl_name (pls_cons pl_bin pls_nil)) (da_cons pl_name (h.var (i := 0) (by decide +kernel)) (da_cons pl_bin (de_sub (h.var (i := 1) (by decide +kernel)) (h.var (i := 2) (by decide +kernel))) da_nil)))) (h.tg (by decide +kernel)))
      (dss_cons (ds_asg rfl rfl tg_name (h.call c__law_take j__law_take (by decide +kernel) (pls_cons pl_name (pls_cons pl_con pls_nil)) (da_cons pl_name (h.var (i := 0) (by decide +kernel)) (da_cons pl_con de_int da_nil))) (h.tg (by decide +kernel)))
      (dss_cons (ds_if (h.tcmp .Eq pl_con (h.var (i := 4) (by decide +kernel)) de_int) (dss_cons (ds_ret (de_tup (da_cons pl_name (h.var (i := 1) (by decide +kernel)) (da_cons pl_name (h.var (i := 3) (by decide +kernel)) (da_cons pl_name (h.var (i := 2) (by decide +kernel)) da_nil)))))
      dss_nil) dss_nil)
      (dss_cons (ds_if (h.tcmp .Eq pl_con (h.var (i := 4) (by decide +kernel)) de_int) (dss_cons (ds_ret (de_tup (da_cons pl_name (h.var (i := 1) (by decide +kernel)) (da_cons pl_name (h.var (i := 2) (by decide +kernel)) (da_cons pl_name (h.var (i := 2) (by decide +kernel)) da_nil)))))
      dss_nil) dss_nil)
      (dss_cons (ds_if (h.tcmp .Eq pl_con (h.var (i := 4) (by decide +kernel)) de_int) (dss_cons (ds_ret (de_tup (da_cons pl_name (h.var (i := 1) (by decide +kernel)) (da_cons pl_bin (de_sub (de_sub de_int de_int) (h.call c__law_take j__law_take (by decide +kernel) (pls_cons pl_name (pls_cons pl_con pls_nil)) (da_cons pl_name (h.var (i := 0) (by decide +kernel)) (da_cons pl_con de_int da_nil)))) (da_cons pl_name (h.var (i := 3) (by decide +kernel)) da_nil)))))
      dss_nil) dss_nil)
      (dss_cons (ds_if (h.tcmp .Eq pl_con (h.var (i := 4) (by decide +kernel)) de_int) (dss_cons (ds_ret (de_tup (da_cons pl_name (h.var (i := 1) (by decide +kernel)) (da_cons pl_name (h.var (i := 2) (by decide +kernel)) (da_cons pl_bin (de_add (de_add (h.var (i := 1) (by decide +kernel)) de_int) (h.call c__law_take j__law_take (by decide +kernel) (pls_cons pl_name (pls_cons pl_con pls_nil)) (da_cons pl_name (h.var (i := 0) (by decide +kernel)) (da_cons pl_con de_int da_nil)))) da_nil)))))
      dss_nil) dss_nil)
      (dss_cons (ds_if (h.tcmp .Eq pl_con (h.var (i := 4) (by decide +kernel)) de_int) (dss_cons (ds_ret (de_tup (da_cons pl_con de_int (da_cons pl_name (h.var (i := 2) (by decide +kernel)) (da_cons pl_name (h.var (i := 3) (by decide +kernel)) da_nil)))))
      dss_nil) dss_nil)
      (dss_cons (ds_if (h.tcmp .Eq pl_con (h.var (i := 4) (by decide +kernel)) de_int) (dss_cons (ds_ret (de_tup (da_cons pl_con de_int (da_cons pl_con de_int (da_cons pl_call (h.call c__law_take j__law_take (by decide +kernel) (pls_cons pl_name (pls_cons pl_con pls_nil)) (da_cons pl_name (h.var (i := 0) (by decide +kernel)) (da_cons pl_con de_int da_nil))) da_nil)))))
      dss_nil) dss_nil)
      (dss_cons (ds_asg rfl rfl tg_name (de_lst (da_cons pl_name (h.var (i := 1) (by decide +kernel)) (da_cons pl_name (h.var (i := 2) (by decide +kernel)) (da_cons pl_name (h.var (i := 3) (by decide +kernel)) da_nil)))) (h.tg (by decide +kernel)))
      (dss_cons (ds_asg rfl rfl tg_sub (h.call c__law_wild j__law_wild (by decide +kernel) (pls_cons pl_name pls_nil) (da_cons pl_name (h.var (i := 0) (by decide +kernel)) da_nil)) (dg_sub (h.var (i := 5) (by decide +kernel)) (h.call c__law_take j__law_take (by decide +kernel) (pls_cons pl_name (pls_cons pl_con pls_nil)) (da_cons pl_name (h.var (i := 0) (by decide +kernel)) (da_cons pl_con de_int da_nil))) fun _ => rfl))
      (dss_cons (ds_if (h.tcmp .Eq pl_con (h.var (i := 4) (by decide +kernel)) de_int) (dss_cons (ds_asg rfl rfl tg_sub (h.call c__law_wild j__law_wild (by decide +kernel) (pls_cons pl_name pls_nil) (da_cons pl_name (h.var (i := 0) (by decide +kernel)) da_nil)) (dg_sub (h.var (i := 5) (by decide +kernel)) (h.call c__law_take j__law_take (by decide +kernel) (pls_cons pl_name (pls_cons pl_con pls_nil)) (da_cons pl_name (h.var (i := 0) (by decide +kernel)) (da_cons pl_con de_int da_nil))) fun _ => rfl))
      dss_nil) dss_nil)
      (dss_cons (ds_ret (de_tup (da_cons pl_sub (de_ix pl_con (h.var (i := 5) (by decide +kernel)) de_int) (da_cons pl_sub (de_ix pl_con (h.var (i := 5) (by decide +kernel)) de_int) (da_cons pl_sub (de_ix pl_con (h.var (i := 5) (by decide +kernel)) de_int) da_nil)))))
      dss_nil)))))))))))))
/-! law -/
def N_law : List Str := ["script", "store", "count", "due", "low", "high", "step", "one", "two", "three", "told", "spoilt", "k", "size"]
abbrev st_law : Stmt := top 52
abbrev ps_law : List Str := ["script"]
theorem sc_law : FnScope N_law ps_law (defScope st_law) := ⟨rfl, rfl, rfl, by decide +kernel, rfl, by decide +kernel, by decide +kernel⟩
def t_law_0_6 : DTS := dSeq (dRet (dCall 3 S__law_right (dCons (dCall 3 S__law_answer (dCons (dVar 2) (dCons (dVar 4) (dCons (dVar 5) dNil)))) (dCons (dVar 4) (dCons (dVar 5) dNil))))) dNext
def t_law_1_7 : DTS := dSeq (dAsg (dTup (dCons (dVar 4) (dCons (dVar 4) dNil))) (gSub (dVar 11) (dC (.int 0)))) dNext
def t_law_1_6 : DTS := dSeq (dDrop (dBm "list" mApp (dVar 11) (dCons (dTup (dCons (dVar 5) (dCons (dOp sAdd (dVar 5) (dC (.int 1))) dNil))) dNil))) t_law_1_7
def t_law_1_5 : DTS := dSeq (dAsg (dIxMv 10 1) (gN 11)) t_law_1_6
def t_law_2_0 : DTS := dSeq (dRet (dC (.bl false))) dNext
def t_law_1_4 : DTS := dSeq (dIf (dNotT (dTru (dCall 3 S__law_right (dCons (dVar 10) (dCons (dVar 4) (dCons (dVar 5) dNil)))))) t_law_2_0 dNext) t_law_1_5
def t_law_1_3 : DTS := dSeq (dAsg (dCall 3 S__law_answer (dCons (dVar 2) (dCons (dVar 4) (dCons (dVar 5) dNil)))) (gN 10)) t_law_1_4
def t_law_4_0 : DTS := dSeq (dRet (dC (.bl false))) dNext
def t_law_3_0 : DTS := dSeq (dIf (dNotT (dTru (dCall 3 S__law_right (dCons (dVar 10) (dCons (dVar 8) (dCons (dVar 9) dNil)))))) t_law_4_0 dNext) dNext
def t_law_6_0 : DTS := dSeq (dRet (dC (.bl false))) dNext
def t_law_5_0 : DTS := dSeq (dIf (dNotT (dTru (dCall 2 S__law_same (dCons (dVar 10) (dCons (dCall 2 S__law_due (dCons (dC (.str [66, 97, 100, 78, 117, 109, 98, 101, 114])) (dCons (dLst dNil) dNil))) dNil))))) t_law_6_0 dNext) dNext
def t_law_1_2 : DTS := dSeq (dIf (dAndT (dBl (dOp (sCmp .LtE) (dC (.int 0)) (dVar 8))) (dAndT (dBl (dOp (sCmp .Lt) (dVar 8) (dVar 9))) (dAndT (dBl (dOp (sCmp .LtE) (dVar 9) (dVar 7))) (dBl (dOp (sCmp .LtE) (dVar 7) (dC (.int 16))))))) t_law_3_0 t_law_5_0) t_law_1_3
def t_law_1_1 : DTS := dSeq (dAsg (dCall 3 S__law_answer (dCons (dVar 7) (dCons (dVar 8) (dCons (dVar 9) dNil)))) (gN 10)) t_law_1_2
def t_law_1_0 : DTS := dSeq (dAsg (dCall 2 S__law_triple (dCons (dVar 1) (dCons (dVar 2) dNil))) (gTp 3 (gsCons (gN 7) (gsCons (gN 8) (gsCons (gN 9) gsNil))))) t_law_1_1
def t_law_0_5 : DTS := dSeq (dFor (dRng1 (dC (.int 6))) (gN 6) t_law_1_0) t_law_0_6
def t_law_0_4 : DTS := dSeq (dAsg (dOp sAdd (dOp sAdd (dVar 4) (dC (.int 1))) (dCall 2 S__law_take (dCons (dVar 1) (dCons (dOp (sInt (fun _ _ => True) fun i j => i - j) (dVar 2) (dVar 4)) dNil)))) (gN 5)) t_law_0_5
def t_law_0_3 : DTS := dSeq (dAsg (dCall 2 S__law_take (dCons (dVar 1) (dCons (dVar 2) dNil))) (gN 4)) t_law_0_4
def t_law_9_0 : DTS := dSeq (dRet (dC (.bl false))) dNext
def t_law_8_0 : DTS := dSeq (dIf (dNotT (dTru (dCall 3 S__law_right (dCons (dCall 3 S__law_answer (dCons (dVar 2) (dCons (dVar 4) (dCons (dVar 5) dNil)))) (dCons (dVar 4) (dCons (dVar 5) dNil)))))) t_law_9_0 dNext) dNext
def t_law_7_0 : DTS := dSeq (dFor (dRng2 (dOp sAdd (dVar 4) (dC (.int 1))) (dOp sAdd (dVar 2) (dC (.int 1)))) (gN 5) t_law_8_0) dNext
def t_law_0_2 : DTS := dSeq (dFor (dRng1 (dVar 2)) (gN 4) t_law_7_0) t_law_0_3
def t_law_0_1 : DTS := dSeq (dAsg (dCall 3 S__law_between (dCons (dVar 1) (dCons (dC (.int 1)) (dCons (dC (.int 16)) dNil)))) (gN 2)) t_law_0_2
def t_law_11_0 : DTS := dSeq (dRet (dC (.bl false))) dNext
def t_law_10_2 : DTS := dSeq (dIf (dNotT (dTru (dCall 2 S__law_same (dCons (dCall 1 S__law_levels (dCons (dVar 2) dNil)) (dCons (dVar 3) dNil))))) t_law_11_0 dNext) dNext
def t_law_12_0 : DTS := dSeq (dAsg (dLst (dCons (dC (.str [97, 110, 115, 119, 101, 114])) (dCons (dCl (s1 kLenN) (dCons (dComp [13] (dRow (dLst (dCons (dC (.int 1)) (dCons (dC (.int 2)) (dCons (dC (.int 4)) (dCons (dC (.int 8)) dNil)))))) (gN 13) (dBl (dOp (sCmp .Lt) (dVar 13) (dVar 2))) (dVar 13)) dNil)) dNil))) (gN 3)) dNext
def t_law_10_1 : DTS := dSeq (dIf (dAndT (dBl (dOp (sCmp .GtE) (dVar 2) (dC (.int 1)))) (dBl (dOp (sCmp .LtE) (dVar 2) (dC (.int 16))))) t_law_12_0 dNext) t_law_10_2
def t_law_10_0 : DTS := dSeq (dAsg (dCall 2 S__law_due (dCons (dC (.str [66, 97, 100, 78, 117, 109, 98, 101, 114])) (dCons (dLst dNil) dNil))) (gN 3)) t_law_10_1
def t_law_0_0 : DTS := dSeq (dFor (dRow (dOp sAdd (dComp [12] (dRng1 (dC (.int 18))) (gN 12) dYes (dVar 12)) (dLst (dCons (dOp (sInt (fun _ _ => True) fun i j => i - j) (dC (.int 0)) (dC (.int 1))) (dCons (dCall 1 S__law_wild (dCons (dVar 1) dNil)) (dCons (dCall 1 S__law_wild (dCons (dVar 1) dNil)) dNil)))))) (gN 2) t_law_10_0) t_law_0_1
abbrev t_law : DTS := t_law_0_0
theorem w_law {X : Cx} {k : Nat} (h : FX N_law (defScope st_law) none k X) (ho : PassesOwn (model X.prog X.w) X.A X.env X.xe) {l__law_answer : Nat} (c__law_answer : DFn X.prog X.w X.K X.mg X.base "_law_answer" ps__law_answer l__law_answer S__law_answer) (j__law_answer : Nat.ble l__law_answer k = true) {l__law_right : Nat} (c__law_right : DFn X.prog X.w X.K X.mg X.base "_law_right" ps__law_right l__law_right S__law_right) (j__law_right : Nat.ble l__law_right k = true) {l__law_due : Nat} (c__law_due : DFn X.prog X.w X.K X.mg X.base "_law_due" ps__law_due l__law_due S__law_due) (j__law_due : Nat.ble l__law_due k = true) {l__law_same : Nat} (c__law_same : DFn X.prog X.w X.K X.mg X.base "_law_same" ps__law_same l__law_same S__law_same) (j__law_same : Nat.ble l__law_same k = true) {l__law_triple : Nat} (c__law_triple : DFn X.prog X.w X.K X.mg X.base "_law_triple" ps__law_triple l__law_triple S__law_triple) (j__law_triple : Nat.ble l__law_triple k = true) {l__law_take : Nat} (c__law_take : DFn X.prog X.w X.K X.mg X.base "_law_take" ps__law_take l__law_take S__law_take) (j__law_take : Nat.ble l__law_take k = true) {l__law_between : Nat} (c__law_between : DFn X.prog X.w X.K X.mg X.base "_law_between" ps__law_between l__law_between S__law_between) (j__law_between : Nat.ble l__law_between k = true) {l__law_wild : Nat} (c__law_wild : DFn X.prog X.w X.K X.mg X.base "_law_wild" ps__law_wild l__law_wild S__law_wild) (j__law_wild : Nat.ble l__law_wild k = true) {l__law_levels : Nat} (c__law_levels : DFn X.prog X.w X.K X.mg X.base "_law_levels" ps__law_levels l__law_levels S__law_levels) (j__law_levels : Nat.ble l__law_levels k = true) (m_range : X.mg "range" = none) (m_len : X.mg "len" = none) : DSs X ((defBody st_law).drop 1) (t_law) :=
    (dss_cons (h.for_ ho pl_bin (di_row (de_add (h.comp (own := [("k", 12)]) (sl := [12]) (by decide +kernel) (by decide +kernel) pl_call (h.rng1 (by decide +kernel) m_range pl_con de_int) (fun _ h1 e0_1 e0_2 e0_3 e0_4 e0_5 => ⟨(h1.tg (by decide +kernel)), dts_nil, (h1.var (i := 12) (by decide +kernel))⟩)) (de_lst (da_cons pl_bin (de_sub de_int de_int) (da_cons pl_call (h.call c__law_wild j__law_wild (by decide +kernel) (pls_cons pl_name pls_nil) (da_cons pl_name (h.var (i := 1) (by decide +kernel)) da_nil)) (da_cons pl_call (h.call c__law_wild j__law_wild (by decide +kernel) (pls_cons pl_name pls_nil) (da_cons pl_name (h.var (i := 1) (by decide +kernel)) da_nil)) da_nil)))))) (h.tg (by decide +kernel)) (dss_cons (ds_asg rfl rfl tg_name (h.call c__law_due j__law_due (by decide +kernel) (pls_cons pl_con (pls_cons pl_lst pls_nil)) (da_cons pl_con de_str (da_cons pl_lst (de_lst da_nil) da_nil))) (h.tg (by decide +kernel)))
      (dss_cons (ds_if (DW.dt (dw_and (h.tcmp .GtE pl_con (h.var (i := 2) (by decide +kernel)) de_int) (dw_and1 (h.tcmp .LtE pl_con (h.var (i := 2) (by decide +kernel)) de_int)))) (dss_cons (ds_asg rfl rfl tg_name (de_lst (da_cons pl_con de_str (da_cons pl_call (h.len (by decide +kernel) m_len (pls_cons pl_lc pls_nil) (da_cons pl_lc (h.comp (own := [("size", 13)]) (sl := [13]) (by decide +kernel) (by decide +kernel) pl_lst (di_row (de_lst (da_cons pl_con de_int (da_cons pl_con de_int (da_cons pl_con de_int (da_cons pl_con de_int da_nil)))))) (fun _ h1 e0_1 e0_2 e0_3 e0_4 e0_5 => ⟨(h1.tg (by decide +kernel)), (dts_one (h1.tcmp .Lt pl_name (h1.var (i := 13) (by decide +kernel)) (h1.var (i := 2) (by decide +kernel)))), (h1.var (i := 13) (by decide +kernel))⟩)) da_nil)) da_nil))) (h.tg (by decide +kernel)))
      dss_nil) dss_nil)
      (dss_cons (ds_if (dt_not (dt_tru tr_call (h.call c__law_same j__law_same (by decide +kernel) (pls_cons pl_call (pls_cons pl_name pls_nil)) (da_cons pl_call (h.call c__law_levels j__law_levels (by decide +kernel) (pls_cons pl_name pls_nil) (da_cons pl_name (h.var (i := 2) (by decide +kernel)) da_nil)) (da_cons pl_name (h.var (i := 3) (by decide +kernel)) da_nil))))) (dss_cons (ds_ret de_bl)
      dss_nil) dss_nil)
      dss_nil))))
      (dss_cons (ds_asg rfl rfl tg_name (h.call c__law_between j__law_between (by decide +kernel) (pls_cons pl_name (pls_cons pl_con (pls_cons pl_con pls_nil))) (da_cons pl_name (h.var (i := 1) (by decide +kernel)) (da_cons pl_con de_int (da_cons pl_con de_int da_nil)))) (h.tg (by decide +kernel)))
      (dss_cons (h.for_ ho pl_call (h.rng1 (by decide +kernel) m_range pl_name (h.var (i := 2) (by decide +kernel))) (h.tg (by decide +kernel)) (dss_cons (h.for_ ho pl_call (h.rng2 (by decide +kernel) m_range pl_bin pl_bin (de_add (h.var (i := 4) (by decide +kernel)) de_int) (de_add (h.var (i := 2) (by decide +kernel)) de_int)) (h.tg (by decide +kernel)) (dss_cons (ds_if (dt_not (dt_tru tr_call (h.call c__law_right j__law_right (by decide +kernel) (pls_cons pl_call (pls_cons pl_name (pls_cons pl_name pls_nil))) (da_cons pl_call (h.call c__law_answer j__law_answer (by decide +kernel) (pls_cons pl_name (pls_cons pl_name (pls_cons pl_name pls_nil))) (da_cons pl_name (h.var (i := 2) (by decide +kernel)) (da_cons pl_name (h.var (i := 4) (by decide +kernel)) (da_cons pl_name (h.var (i := 5) (by decide +kernel)) da_nil)))) (da_cons pl_name (h.var (i := 4) (by decide +kernel)) (da_cons pl_name (h.var (i := 5) (by decide +kernel)) da_nil)))))) (dss_cons (ds_ret de_bl)
      dss_nil) dss_nil)
      dss_nil))
      dss_nil))
      (dss_cons (ds_asg rfl rfl tg_name (h.call c__law_take j__law_take (by decide +kernel) (pls_cons pl_name (pls_cons pl_name pls_nil)) (da_cons pl_name (h.var (i := 1) (by decide +kernel)) (da_cons pl_name (h.var (i := 2) (by decide +kernel)) da_nil))) (h.tg (by decide +kernel)))
      (dss_cons (ds_asg rfl rfl tg_name (de_add (de_add (h.var (i := 4) (by decide +kernel)) de_int) (h.call c__law_take j__law_take (by decide +kernel) (pls_cons pl_name (pls_cons pl_bin pls_nil)) (da_cons pl_name (h.var (i := 1) (by decide +kernel)) (da_cons pl_bin (de_sub (h.var (i := 2) (by decide +kernel)) (h.var (i := 4) (by decide +kernel))) da_nil)))) (h.tg (by decide +kernel)))
      (dss_cons (h.for_ ho pl_call (h.rng1 (by decide +kernel) m_range pl_con de_int) (h.tg (by decide +kernel)) (dss_cons (ds_asg rfl rfl tg_tup (h.call c__law_triple j__law_triple (by decide +kernel) (pls_cons pl_name (pls_cons pl_name pls_nil)) (da_cons pl_name (h.var (i := 1) (by decide +kernel)) (da_cons pl_name (h.var (i := 2) (by decide +kernel)) da_nil))) (dg_tup h.calm (tgs_cons tg_name (tgs_cons tg_name (tgs_cons tg_name tgs_nil))) (dgs_cons (h.tg (by decide +kernel)) (dgs_cons (h.tg (by decide +kernel)) (dgs_cons (h.tg (by decide +kernel)) dgs_nil rfl) rfl) rfl)))
      (dss_cons (ds_asg rfl rfl tg_name (h.call c__law_answer j__law_answer (by decide +kernel) (pls_cons pl_name (pls_cons pl_name (pls_cons pl_name pls_nil))) (da_cons pl_name (h.var (i := 7) (by decide +kernel)) (da_cons pl_name (h.var (i := 8) (by decide +kernel)) (da_cons pl_name (h.var (i := 9) (by decide +kernel)) da_nil)))) (h.tg (by decide +kernel)))
      (dss_cons (ds_if (DW.dt (dw_and (h.tcmp .LtE pl_name de_int (h.var (i := 8) (by decide +kernel))) (dw_and (h.tcmp .Lt pl_name (h.var (i := 8) (by decide +kernel)) (h.var (i := 9) (by decide +kernel))) (dw_and (h.tcmp .LtE pl_name (h.var (i := 9) (by decide +kernel)) (h.var (i := 7) (by decide +kernel))) (dw_and1 (h.tcmp .LtE pl_con (h.var (i := 7) (by decide +kernel)) de_int)))))) (dss_cons (ds_if (dt_not (dt_tru tr_call (h.call c__law_right j__law_right (by decide +kernel) (pls_cons pl_name (pls_cons pl_name (pls_cons pl_name pls_nil))) (da_cons pl_name (h.var (i := 10) (by decide +kernel)) (da_cons pl_name (h.var (i := 8) (by decide +kernel)) (da_cons pl_name (h.var (i := 9) (by decide +kernel)) da_nil)))))) (dss_cons (ds_ret de_bl)
      dss_nil) dss_nil)
      dss_nil) (dss_cons (ds_if (dt_not (dt_tru tr_call (h.call c__law_same j__law_same (by decide +kernel) (pls_cons pl_name (pls_cons pl_call pls_nil)) (da_cons pl_name (h.var (i := 10) (by decide +kernel)) (da_cons pl_call (h.call c__law_due j__law_due (by decide +kernel) (pls_cons pl_con (pls_cons pl_lst pls_nil)) (da_cons pl_con de_str (da_cons pl_lst (de_lst da_nil) da_nil))) da_nil))))) (dss_cons (ds_ret de_bl)
      dss_nil) dss_nil)
      dss_nil))
      (dss_cons (ds_asg rfl rfl tg_name (h.call c__law_answer j__law_answer (by decide +kernel) (pls_cons pl_name (pls_cons pl_name (pls_cons pl_name pls_nil))) (da_cons pl_name (h.var (i := 2) (by decide +kernel)) (da_cons pl_name (h.var (i := 4) (by decide +kernel)) (da_cons pl_name (h.var (i := 5) (by decide +kernel)) da_nil)))) (h.tg (by decide +kernel)))
      (dss_cons (ds_if (dt_not (dt_tru tr_call (h.call c__law_right j__law_right (by decide +kernel) (pls_cons pl_name (pls_cons pl_name (pls_cons pl_name pls_nil))) (da_cons pl_name (h.var (i := 10) (by decide +kernel)) (da_cons pl_name (h.var (i := 4) (by decide +kernel)) (da_cons pl_name (h.var (i := 5) (by decide +kernel)) da_nil)))))) (dss_cons (ds_ret de_bl)
      dss_nil) dss_nil)
      (dss_cons (ds_asg rfl rfl tg_name (h.ixMv (i := 10) (j := 1) (by decide +kernel)) (h.tg (by decide +kernel)))
      (dss_cons (ds_expr rfl (h.app ab_name (by decide +kernel) (pls_cons pl_tup pls_nil) (h.var (i := 11) (by decide +kernel)) (da_cons pl_tup (de_tup (da_cons pl_name (h.var (i := 5) (by decide +kernel)) (da_cons pl_bin (de_add (h.var (i := 5) (by decide +kernel)) de_int) da_nil))) da_nil)))
      (dss_cons (ds_asg rfl rfl tg_sub (de_tup (da_cons pl_name (h.var (i := 4) (by decide +kernel)) (da_cons pl_name (h.var (i := 4) (by decide +kernel)) da_nil))) (dg_sub (h.var (i := 11) (by decide +kernel)) de_int fun _ => rfl))
      dss_nil)))))))))
      (dss_cons (ds_ret (h.call c__law_right j__law_right (by decide +kernel) (pls_cons pl_call (pls_cons pl_name (pls_cons pl_name pls_nil))) (da_cons pl_call (h.call c__law_answer j__law_answer (by decide +kernel) (pls_cons pl_name (pls_cons pl_name (pls_cons pl_name pls_nil))) (da_cons pl_name (h.var (i := 2) (by decide +kernel)) (da_cons pl_name (h.var (i := 4) (by decide +kernel)) (da_cons pl_name (h.var (i := 5) (by decide +kernel)) da_nil)))) (da_cons pl_name (h.var (i := 4) (by decide +kernel)) (da_cons pl_name (h.var (i := 5) (by decide +kernel)) da_nil)))))
      dss_nil)))))))
end Lk25

open PySem DL
local macro_rules | `(tactic| walk_at "dl") => `(tactic| (try simp only [dSeq, dNext, dIf, dOrT, dAndT, dNotT, dBl, kBl, dTru, kTru, DL.truD, dOp, dCl, s1, s2, dCons, dNil, dVar, dMov, dC, kLenN, peek, lenW, noDict, lenD, sCmp, sOrd, sEq, kEq, sIn, sIsN, nonW, sInt, sAdd, sMul, sRows, rowD, flat, dsOf, seqW, dRet, dRetN, dDrop, dBrk, dCnt, dAsg, gN, gTp, gsCons, gsNil, DL.gSub, setW, useW, useWs, useD, nosto, nostos, fz, fzs, dCall, dCall0, argsD, argD, dLst, dTup, dIte, dAnd, dOr, dNot, dNeg, dBm, isTy, mApp, sIx, kItem, rowOf, dSl, kSl, dNo, dSo, kInt, kStr, kRepr, kListOf, kIsi, tyN, dFor, dRow, dRng1, dRng2, dComp, wipeE, dYes, dJoin, dJs, dFmt, kFmt, pkS, kI2, kAbs, okq, eqv, okqs, eqvs, kCat, dsOf_map, nostos_d, fzs_d, dChn, dRaise0, dRaise, dTryAs, dCallH, kIsX, dXf, kXf, dChN, dChT, dLinks, dBits, dIxMv, subX_ce, isExn, suE, dropX, dropO, keepX, nox, noxs, List.map_cons, List.map_nil, List.any_cons, List.any_nil, List.getElem?_cons_zero, List.getElem?_cons_succ, List.set_cons_zero, List.set_cons_succ, List.length_cons, List.length_nil, Option.bind_some, Option.map_some, if_true, if_false, Bool.false_eq_true, decide_eq_true_eq, true_and, List.length_map, Bool.not_true, Bool.not_false, Bool.not_eq_true', decide_eq_false_iff_not, Bool.false_bne, eq_self, beq_self_eq_true, Bool.true_bne, ite_self, reduceCtorEq]))
local macro_rules | `(tactic| walk_at "crunch") => `(tactic| (repeat' (first | (with_reducible refine ite_i (fun hh => ?_) (fun hh => ?_) <;> (try simp only [decide_eq_true_eq, decide_eq_false_iff_not, Bool.not_eq_true', Bool.not_eq_false', Bool.not_true, Bool.not_false, beq_iff_eq, bne_iff_ne, ne_eq, Decidable.not_not, Bool.false_bne, Bool.true_bne] at hh) <;> walk_at "dl") | (with_reducible refine And.intro ?sa ?_; (case sa => (first | exact trivial | exact Nat.zero_le _ | exact rfl | decide | omega | exact szl (by decide) | exact szl (by omega) | exact szl (by simp only [List.length_cons, List.length_nil]; omega) | exact mulR (by omega) (by omega) | exact mulL (by omega) (by omega) | exact szl' (by omega) | fail))) | fail)))
namespace Lk25
theorem p_levels : ∀ ws k kx, ws.length = 1 → S_levels ws k kx → t_levels (retE k) (fun x _ => kx x) (startE N_levels ws) := by
  rintro ws k kx - ⟨c, rfl, hk⟩
  rw [se_levels]
  simp only [t_levels, t_levels_0_1, t_levels_1_0, t_levels_0_0, dSeq, dNext, dIf, dOrT, dAndT, dNotT, dBl, kBl, dTru, kTru, DL.truD, dOp, dCl, s1, s2, dCons, dNil, dVar, dMov, dC, kLenN, peek, lenW, noDict, lenD, sCmp, sOrd, sEq, kEq, sIn, sIsN, nonW, sInt, sAdd, sMul, sRows, rowD, flat, dsOf, seqW, dRet, dRetN, dDrop, dBrk, dCnt, dAsg, gN, gTp, gsCons, gsNil, DL.gSub, setW, useW, useWs, useD, nosto, nostos, fz, fzs, dCall, dCall0, argsD, argD, dLst, dTup, dIte, dAnd, dOr, dNot, dNeg, dBm, isTy, mApp, sIx, kItem, rowOf, dSl, kSl, dNo, dSo, kInt, kStr, kRepr, kListOf, kIsi, tyN, dFor, dRow, dRng1, dRng2, dComp, wipeE, dYes, dJoin, dJs, dFmt, kFmt, pkS, kI2, kAbs, okq, eqv, okqs, eqvs, kCat, dsOf_map, nostos_d, fzs_d, dChn, dRaise0, dRaise, dTryAs, dCallH, kIsX, dXf, kXf, dChN, dChT, dLinks, dBits, dIxMv, subX_ce, isExn, suE, dropX, dropO, keepX, nox, noxs, List.map_cons, List.map_nil, List.any_cons, List.any_nil, List.getElem?_cons_zero, List.getElem?_cons_succ, List.set_cons_zero, List.set_cons_succ, List.length_cons, List.length_nil, Option.bind_some, Option.map_some, if_true, if_false, Bool.false_eq_true, decide_eq_true_eq, true_and, List.length_map, Bool.not_true, Bool.not_false, Bool.not_eq_true', decide_eq_false_iff_not, Bool.false_bne, eq_self, beq_self_eq_true, Bool.true_bne, ite_self, reduceCtorEq, retE]
  by_cases hv : 1 ≤ c ∧ c ≤ 16
  · rw [if_pos hv] at hk
    walk_at "crunch"
    all_goals first | exact ⟨_, rfl, hk⟩ | (exfalso; omega)
  · rw [if_neg hv] at hk
    walk_at "crunch"
    all_goals first | exact hk | (exfalso; omega)

end Lk25

open PySem DL
namespace Lk25
theorem p_aligned_spans : ∀ ws k kx, ws.length = 3 → S_aligned_spans ws k kx → t_aligned_spans (retE k) (fun x _ => kx x) (startE N_aligned_spans ws) := by
  rintro ws k kx - ⟨c, lo, hi, rfl, hk⟩
  rw [se_aligned_spans]
  by_cases hv : 0 ≤ lo ∧ lo < hi ∧ hi ≤ c ∧ c ≤ 16
  rotate_left
  · rw [if_neg hv] at hk
    simp only [t_aligned_spans, t_aligned_spans_0_0, t_aligned_spans_3_0, dSeq, dNext, dIf, dOrT, dAndT, dNotT, dBl, kBl, dTru, kTru, DL.truD, dOp, dCl, s1, s2, dCons, dNil, dVar, dMov, dC, kLenN, peek, lenW, noDict, lenD, sCmp, sOrd, sEq, kEq, sIn, sIsN, nonW, sInt, sAdd, sMul, sRows, rowD, flat, dsOf, seqW, dRet, dRetN, dDrop, dBrk, dCnt, dAsg, gN, gTp, gsCons, gsNil, DL.gSub, setW, useW, useWs, useD, nosto, nostos, fz, fzs, dCall, dCall0, argsD, argD, dLst, dTup, dIte, dAnd, dOr, dNot, dNeg, dBm, isTy, mApp, sIx, kItem, rowOf, dSl, kSl, dNo, dSo, kInt, kStr, kRepr, kListOf, kIsi, tyN, dFor, dRow, dRng1, dRng2, dComp, wipeE, dYes, dJoin, dJs, dFmt, kFmt, pkS, kI2, kAbs, okq, eqv, okqs, eqvs, kCat, dsOf_map, nostos_d, fzs_d, dChn, dRaise0, dRaise, dTryAs, dCallH, kIsX, dXf, kXf, dChN, dChT, dLinks, dBits, dIxMv, subX_ce, isExn, suE, dropX, dropO, keepX, nox, noxs, List.map_cons, List.map_nil, List.any_cons, List.any_nil, List.getElem?_cons_zero, List.getElem?_cons_succ, List.set_cons_zero, List.set_cons_succ, List.length_cons, List.length_nil, Option.bind_some, Option.map_some, if_true, if_false, Bool.false_eq_true, decide_eq_true_eq, true_and, List.length_map, Bool.not_true, Bool.not_false, Bool.not_eq_true', decide_eq_false_iff_not, Bool.false_bne, eq_self, beq_self_eq_true, Bool.true_bne, ite_self, reduceCtorEq]
    walk_at "crunch"
    all_goals first | exact hk | (exfalso; omega)
  rw [if_pos hv] at hk
  obtain ⟨v1, v2, v3, v4⟩ := hv
  suffices main : t_aligned_spans_0_1 (retE k) (fun x _ => kx x) [some (.d (.int c)), some (.d (.int lo)), some (.d (.int hi)), none, none, none] by
    simp only [t_aligned_spans, t_aligned_spans_0_0, t_aligned_spans_3_0, dSeq, dNext, dIf, dOrT, dAndT, dNotT, dBl, kBl, dTru, kTru, DL.truD, dOp, dCl, s1, s2, dCons, dNil, dVar, dMov, dC, kLenN, peek, lenW, noDict, lenD, sCmp, sOrd, sEq, kEq, sIn, sIsN, nonW, sInt, sAdd, sMul, sRows, rowD, flat, dsOf, seqW, dRet, dRetN, dDrop, dBrk, dCnt, dAsg, gN, gTp, gsCons, gsNil, DL.gSub, setW, useW, useWs, useD, nosto, nostos, fz, fzs, dCall, dCall0, argsD, argD, dLst, dTup, dIte, dAnd, dOr, dNot, dNeg, dBm, isTy, mApp, sIx, kItem, rowOf, dSl, kSl, dNo, dSo, kInt, kStr, kRepr, kListOf, kIsi, tyN, dFor, dRow, dRng1, dRng2, dComp, wipeE, dYes, dJoin, dJs, dFmt, kFmt, pkS, kI2, kAbs, okq, eqv, okqs, eqvs, kCat, dsOf_map, nostos_d, fzs_d, dChn, dRaise0, dRaise, dTryAs, dCallH, kIsX, dXf, kXf, dChN, dChT, dLinks, dBits, dIxMv, subX_ce, isExn, suE, dropX, dropO, keepX, nox, noxs, List.map_cons, List.map_nil, List.any_cons, List.any_nil, List.getElem?_cons_zero, List.getElem?_cons_succ, List.set_cons_zero, List.set_cons_succ, List.length_cons, List.length_nil, Option.bind_some, Option.map_some, if_true, if_false, Bool.false_eq_true, decide_eq_true_eq, true_and, List.length_map, Bool.not_true, Bool.not_false, Bool.not_eq_true', decide_eq_false_iff_not, Bool.false_bne, eq_self, beq_self_eq_true, Bool.true_bne, ite_self, reduceCtorEq]
    walk_at "crunch"
    all_goals first | exact main | (exfalso; omega)
  simp only [t_aligned_spans_0_1, t_aligned_spans_0_2, t_aligned_spans_0_3, dSeq, dNext, dIf, dOrT, dAndT, dNotT, dBl, kBl, dTru, kTru, DL.truD, dOp, dCl, s1, s2, dCons, dNil, dVar, dMov, dC, kLenN, peek, lenW, noDict, lenD, sCmp, sOrd, sEq, kEq, sIn, sIsN, nonW, sInt, sAdd, sMul, sRows, rowD, flat, dsOf, seqW, dRet, dRetN, dDrop, dBrk, dCnt, dAsg, gN, gTp, gsCons, gsNil, DL.gSub, setW, useW, useWs, useD, nosto, nostos, fz, fzs, dCall, dCall0, argsD, argD, dLst, dTup, dIte, dAnd, dOr, dNot, dNeg, dBm, isTy, mApp, sIx, kItem, rowOf, dSl, kSl, dNo, dSo, kInt, kStr, kRepr, kListOf, kIsi, tyN, dFor, dRow, dRng1, dRng2, dComp, wipeE, dYes, dJoin, dJs, dFmt, kFmt, pkS, kI2, kAbs, okq, eqv, okqs, eqvs, kCat, dsOf_map, nostos_d, fzs_d, dChn, dRaise0, dRaise, dTryAs, dCallH, kIsX, dXf, kXf, dChN, dChT, dLinks, dBits, dIxMv, subX_ce, isExn, suE, dropX, dropO, keepX, nox, noxs, List.map_cons, List.map_nil, List.any_cons, List.any_nil, List.getElem?_cons_zero, List.getElem?_cons_succ, List.set_cons_zero, List.set_cons_succ, List.length_cons, List.length_nil, Option.bind_some, Option.map_some, if_true, if_false, Bool.false_eq_true, decide_eq_true_eq, true_and, List.length_map, Bool.not_true, Bool.not_false, Bool.not_eq_true', decide_eq_false_iff_not, Bool.false_bne, eq_self, beq_self_eq_true, Bool.true_bne, ite_self, reduceCtorEq, useWs]
  walk_at "crunch"
  refine ⟨fun m env => ∃ (st : Int) (acc : List (Int × Int)) (o : Option W), env = [some (.d (.int c)), some (.d (.int lo)), some (.d (.int hi)), some (.ol (acc.map spanW)), some (.d (.int st)), o] ∧ 0 ≤ st ∧ st ≤ hi ∧ acc ++ spans m st hi = spans 16 lo hi ∧ hi - st ≤ m ∧ acc.length + m ≤ 100,
    ⟨16, lo, [], none, rfl, v1, by omega, rfl, by omega, by decide⟩, ?_⟩
  rintro m env ⟨st, acc, o, rfl, s0, s1, hsp, hm, hl⟩
  simp only [dSeq, dNext, dIf, dOrT, dAndT, dNotT, dBl, kBl, dTru, kTru, DL.truD, dOp, dCl, s1, s2, dCons, dNil, dVar, dMov, dC, kLenN, peek, lenW, noDict, lenD, sCmp, sOrd, sEq, kEq, sIn, sIsN, nonW, sInt, sAdd, sMul, sRows, rowD, flat, dsOf, seqW, dRet, dRetN, dDrop, dBrk, dCnt, dAsg, gN, gTp, gsCons, gsNil, DL.gSub, setW, useW, useWs, useD, nosto, nostos, fz, fzs, dCall, dCall0, argsD, argD, dLst, dTup, dIte, dAnd, dOr, dNot, dNeg, dBm, isTy, mApp, sIx, kItem, rowOf, dSl, kSl, dNo, dSo, kInt, kStr, kRepr, kListOf, kIsi, tyN, dFor, dRow, dRng1, dRng2, dComp, wipeE, dYes, dJoin, dJs, dFmt, kFmt, pkS, kI2, kAbs, okq, eqv, okqs, eqvs, kCat, dsOf_map, nostos_d, fzs_d, dChn, dRaise0, dRaise, dTryAs, dCallH, kIsX, dXf, kXf, dChN, dChT, dLinks, dBits, dIxMv, subX_ce, isExn, suE, dropX, dropO, keepX, nox, noxs, List.map_cons, List.map_nil, List.any_cons, List.any_nil, List.getElem?_cons_zero, List.getElem?_cons_succ, List.set_cons_zero, List.set_cons_succ, List.length_cons, List.length_nil, Option.bind_some, Option.map_some, if_true, if_false, Bool.false_eq_true, decide_eq_true_eq, true_and, List.length_map, Bool.not_true, Bool.not_false, Bool.not_eq_true', decide_eq_false_iff_not, Bool.false_bne, eq_self, beq_self_eq_true, Bool.true_bne, ite_self, reduceCtorEq]
  by_cases hc : st < hi
  rotate_left
  · rw [if_neg (by simpa using hc)]
    have e : spans m st hi = [] := by
      cases m with
      | zero => rfl
      | succ m => show (if st < hi then _ else _) = _; rw [if_neg hc]
    rw [e, List.append_nil] at hsp
    subst hsp
    simp only [t_aligned_spans_0_4, dSeq, dNext, dIf, dOrT, dAndT, dNotT, dBl, kBl, dTru, kTru, DL.truD, dOp, dCl, s1, s2, dCons, dNil, dVar, dMov, dC, kLenN, peek, lenW, noDict, lenD, sCmp, sOrd, sEq, kEq, sIn, sIsN, nonW, sInt, sAdd, sMul, sRows, rowD, flat, dsOf, seqW, dRet, dRetN, dDrop, dBrk, dCnt, dAsg, gN, gTp, gsCons, gsNil, DL.gSub, setW, useW, useWs, useD, nosto, nostos, fz, fzs, dCall, dCall0, argsD, argD, dLst, dTup, dIte, dAnd, dOr, dNot, dNeg, dBm, isTy, mApp, sIx, kItem, rowOf, dSl, kSl, dNo, dSo, kInt, kStr, kRepr, kListOf, kIsi, tyN, dFor, dRow, dRng1, dRng2, dComp, wipeE, dYes, dJoin, dJs, dFmt, kFmt, pkS, kI2, kAbs, okq, eqv, okqs, eqvs, kCat, dsOf_map, nostos_d, fzs_d, dChn, dRaise0, dRaise, dTryAs, dCallH, kIsX, dXf, kXf, dChN, dChT, dLinks, dBits, dIxMv, subX_ce, isExn, suE, dropX, dropO, keepX, nox, noxs, List.map_cons, List.map_nil, List.any_cons, List.any_nil, List.getElem?_cons_zero, List.getElem?_cons_succ, List.set_cons_zero, List.set_cons_succ, List.length_cons, List.length_nil, Option.bind_some, Option.map_some, if_true, if_false, Bool.false_eq_true, decide_eq_true_eq, true_and, List.length_map, Bool.not_true, Bool.not_false, Bool.not_eq_true', decide_eq_false_iff_not, Bool.false_bne, eq_self, beq_self_eq_true, Bool.true_bne, ite_self, reduceCtorEq, retE]
    exact ⟨_, rfl, hk⟩
  rw [if_pos (by simpa using hc)]
  obtain ⟨n, rfl⟩ : ∃ n, m = n + 1 := ⟨m - 1, by omega⟩
  have es : spans (n + 1) st hi = (st, st + gs 5 st hi 1) :: spans n (st + gs 5 st hi 1) hi := by
    show (if st < hi then _ else _) = _
    rw [if_pos hc]
  rw [es] at hsp
  simp only [t_aligned_spans_1_0, t_aligned_spans_1_1, dSeq, dNext, dIf, dOrT, dAndT, dNotT, dBl, kBl, dTru, kTru, DL.truD, dOp, dCl, s1, s2, dCons, dNil, dVar, dMov, dC, kLenN, peek, lenW, noDict, lenD, sCmp, sOrd, sEq, kEq, sIn, sIsN, nonW, sInt, sAdd, sMul, sRows, rowD, flat, dsOf, seqW, dRet, dRetN, dDrop, dBrk, dCnt, dAsg, gN, gTp, gsCons, gsNil, DL.gSub, setW, useW, useWs, useD, nosto, nostos, fz, fzs, dCall, dCall0, argsD, argD, dLst, dTup, dIte, dAnd, dOr, dNot, dNeg, dBm, isTy, mApp, sIx, kItem, rowOf, dSl, kSl, dNo, dSo, kInt, kStr, kRepr, kListOf, kIsi, tyN, dFor, dRow, dRng1, dRng2, dComp, wipeE, dYes, dJoin, dJs, dFmt, kFmt, pkS, kI2, kAbs, okq, eqv, okqs, eqvs, kCat, dsOf_map, nostos_d, fzs_d, dChn, dRaise0, dRaise, dTryAs, dCallH, kIsX, dXf, kXf, dChN, dChT, dLinks, dBits, dIxMv, subX_ce, isExn, suE, dropX, dropO, keepX, nox, noxs, List.map_cons, List.map_nil, List.any_cons, List.any_nil, List.getElem?_cons_zero, List.getElem?_cons_succ, List.set_cons_zero, List.set_cons_succ, List.length_cons, List.length_nil, Option.bind_some, Option.map_some, if_true, if_false, Bool.false_eq_true, decide_eq_true_eq, true_and, List.length_map, Bool.not_true, Bool.not_false, Bool.not_eq_true', decide_eq_false_iff_not, Bool.false_bne, eq_self, beq_self_eq_true, Bool.true_bne, ite_self, reduceCtorEq]
  walk_at "crunch"
  refine ⟨fun q env => ∃ s : Int, env = [some (.d (.int c)), some (.d (.int lo)), some (.d (.int hi)), some (.ol (acc.map spanW)), some (.d (.int st)), some (.d (.int s))] ∧ gs q st hi s = gs 5 st hi 1 ∧ st + s ≤ hi ∧ ((q = 5 ∧ s = 1) ∨ (q = 4 ∧ s = 2) ∨ (q = 3 ∧ s = 4) ∨ (q = 2 ∧ s = 8) ∨ (q = 1 ∧ s = 16)),
    ⟨5, 1, rfl, rfl, by omega, .inl ⟨rfl, rfl⟩⟩, ?_⟩
  rintro q env ⟨s, rfl, hg, hs, hq⟩
  have sb : 1 ≤ s ∧ s ≤ 16 := by omega
  have done : gs q st hi s = s → t_aligned_spans_1_2 { nx := fun e2 => ∃ m', m' < n + 1 ∧ ∃ (st : Int) (acc : List (Int × Int)) (o : Option W), e2 = [some (.d (.int c)), some (.d (.int lo)), some (.d (.int hi)), some (.ol (acc.map spanW)), some (.d (.int st)), o] ∧ 0 ≤ st ∧ st ≤ hi ∧ acc ++ spans m' st hi = spans 16 lo hi ∧ hi - st ≤ m' ∧ acc.length + m' ≤ 100, rt := (retE k).rt, bk := fun e1 => t_aligned_spans_0_4 (retE k) (fun x _ => kx x) e1, ct := fun e2 => ∃ m', m' < n + 1 ∧ ∃ (st : Int) (acc : List (Int × Int)) (o : Option W), e2 = [some (.d (.int c)), some (.d (.int lo)), some (.d (.int hi)), some (.ol (acc.map spanW)), some (.d (.int st)), o] ∧ 0 ≤ st ∧ st ≤ hi ∧ acc ++ spans m' st hi = spans 16 lo hi ∧ hi - st ≤ m' ∧ acc.length + m' ≤ 100 } (fun x _ => kx x) [some (.d (.int c)), some (.d (.int lo)), some (.d (.int hi)), some (.ol (acc.map spanW)), some (.d (.int st)), some (.d (.int s))] := fun e => by
    rw [hg] at e
    rw [e] at hsp
    simp only [t_aligned_spans_1_2, t_aligned_spans_1_3, dSeq, dNext, dIf, dOrT, dAndT, dNotT, dBl, kBl, dTru, kTru, DL.truD, dOp, dCl, s1, s2, dCons, dNil, dVar, dMov, dC, kLenN, peek, lenW, noDict, lenD, sCmp, sOrd, sEq, kEq, sIn, sIsN, nonW, sInt, sAdd, sMul, sRows, rowD, flat, dsOf, seqW, dRet, dRetN, dDrop, dBrk, dCnt, dAsg, gN, gTp, gsCons, gsNil, DL.gSub, setW, useW, useWs, useD, nosto, nostos, fz, fzs, dCall, dCall0, argsD, argD, dLst, dTup, dIte, dAnd, dOr, dNot, dNeg, dBm, isTy, mApp, sIx, kItem, rowOf, dSl, kSl, dNo, dSo, kInt, kStr, kRepr, kListOf, kIsi, tyN, dFor, dRow, dRng1, dRng2, dComp, wipeE, dYes, dJoin, dJs, dFmt, kFmt, pkS, kI2, kAbs, okq, eqv, okqs, eqvs, kCat, dsOf_map, nostos_d, fzs_d, dChn, dRaise0, dRaise, dTryAs, dCallH, kIsX, dXf, kXf, dChN, dChT, dLinks, dBits, dIxMv, subX_ce, isExn, suE, dropX, dropO, keepX, nox, noxs, List.map_cons, List.map_nil, List.any_cons, List.any_nil, List.getElem?_cons_zero, List.getElem?_cons_succ, List.set_cons_zero, List.set_cons_succ, List.length_cons, List.length_nil, Option.bind_some, Option.map_some, if_true, if_false, Bool.false_eq_true, decide_eq_true_eq, true_and, List.length_map, Bool.not_true, Bool.not_false, Bool.not_eq_true', decide_eq_false_iff_not, Bool.false_bne, eq_self, beq_self_eq_true, Bool.true_bne, ite_self, reduceCtorEq, useWs]
    refine ⟨szl (by decide), rfl, szl' (by omega), ?_⟩
    walk_at "crunch"
    refine ⟨n, by omega, st + s, acc ++ [(st, st + s)], _, by rw [List.map_append]; rfl, by omega, hs, by rw [List.append_assoc]; exact hsp, by omega, by simp; omega⟩
  simp only [dSeq, dNext, dIf, dOrT, dAndT, dNotT, dBl, kBl, dTru, kTru, DL.truD, dOp, dCl, s1, s2, dCons, dNil, dVar, dMov, dC, kLenN, peek, lenW, noDict, lenD, sCmp, sOrd, sEq, kEq, sIn, sIsN, nonW, sInt, sAdd, sMul, sRows, rowD, flat, dsOf, seqW, dRet, dRetN, dDrop, dBrk, dCnt, dAsg, gN, gTp, gsCons, gsNil, DL.gSub, setW, useW, useWs, useD, nosto, nostos, fz, fzs, dCall, dCall0, argsD, argD, dLst, dTup, dIte, dAnd, dOr, dNot, dNeg, dBm, isTy, mApp, sIx, kItem, rowOf, dSl, kSl, dNo, dSo, kInt, kStr, kRepr, kListOf, kIsi, tyN, dFor, dRow, dRng1, dRng2, dComp, wipeE, dYes, dJoin, dJs, dFmt, kFmt, pkS, kI2, kAbs, okq, eqv, okqs, eqvs, kCat, dsOf_map, nostos_d, fzs_d, dChn, dRaise0, dRaise, dTryAs, dCallH, kIsX, dXf, kXf, dChN, dChT, dLinks, dBits, dIxMv, subX_ce, isExn, suE, dropX, dropO, keepX, nox, noxs, List.map_cons, List.map_nil, List.any_cons, List.any_nil, List.getElem?_cons_zero, List.getElem?_cons_succ, List.set_cons_zero, List.set_cons_succ, List.length_cons, List.length_nil, Option.bind_some, Option.map_some, if_true, if_false, Bool.false_eq_true, decide_eq_true_eq, true_and, List.length_map, Bool.not_true, Bool.not_false, Bool.not_eq_true', decide_eq_false_iff_not, Bool.false_bne, eq_self, beq_self_eq_true, Bool.true_bne, ite_self, reduceCtorEq]
  walk_at "crunch"
  · simp only [t_aligned_spans_2_0, dSeq, dNext, dIf, dOrT, dAndT, dNotT, dBl, kBl, dTru, kTru, DL.truD, dOp, dCl, s1, s2, dCons, dNil, dVar, dMov, dC, kLenN, peek, lenW, noDict, lenD, sCmp, sOrd, sEq, kEq, sIn, sIsN, nonW, sInt, sAdd, sMul, sRows, rowD, flat, dsOf, seqW, dRet, dRetN, dDrop, dBrk, dCnt, dAsg, gN, gTp, gsCons, gsNil, DL.gSub, setW, useW, useWs, useD, nosto, nostos, fz, fzs, dCall, dCall0, argsD, argD, dLst, dTup, dIte, dAnd, dOr, dNot, dNeg, dBm, isTy, mApp, sIx, kItem, rowOf, dSl, kSl, dNo, dSo, kInt, kStr, kRepr, kListOf, kIsi, tyN, dFor, dRow, dRng1, dRng2, dComp, wipeE, dYes, dJoin, dJs, dFmt, kFmt, pkS, kI2, kAbs, okq, eqv, okqs, eqvs, kCat, dsOf_map, nostos_d, fzs_d, dChn, dRaise0, dRaise, dTryAs, dCallH, kIsX, dXf, kXf, dChN, dChT, dLinks, dBits, dIxMv, subX_ce, isExn, suE, dropX, dropO, keepX, nox, noxs, List.map_cons, List.map_nil, List.any_cons, List.any_nil, List.getElem?_cons_zero, List.getElem?_cons_succ, List.set_cons_zero, List.set_cons_succ, List.length_cons, List.length_nil, Option.bind_some, Option.map_some, if_true, if_false, Bool.false_eq_true, decide_eq_true_eq, true_and, List.length_map, Bool.not_true, Bool.not_false, Bool.not_eq_true', decide_eq_false_iff_not, Bool.false_bne, eq_self, beq_self_eq_true, Bool.true_bne, ite_self, reduceCtorEq]
    walk_at "crunch"
    rename_i h1 h2
    obtain ⟨q', rfl⟩ : ∃ q', q = q' + 1 := ⟨q - 1, by omega⟩
    refine ⟨q', by omega, 2 * s, rfl, ?_, by simpa using h1, by omega⟩
    rw [← hg]
    show _ = (if st + 2 * s ≤ hi ∧ Builtin.bitAnd st (2 * s - 1) = 0 then gs q' st hi (2 * s) else s)
    rw [if_pos ⟨by simpa using h1, by simpa using h2⟩]
  · rename_i h1 h2
    refine done ?_
    obtain ⟨q', rfl⟩ : ∃ q', q = q' + 1 := ⟨q - 1, by omega⟩
    show (if st + 2 * s ≤ hi ∧ Builtin.bitAnd st (2 * s - 1) = 0 then gs q' st hi (2 * s) else s) = s
    rw [if_neg fun h => h2 (by simpa using h.2)]
  · rename_i h1
    refine done ?_
    obtain ⟨q', rfl⟩ : ∃ q', q = q' + 1 := ⟨q - 1, by omega⟩
    show (if st + 2 * s ≤ hi ∧ Builtin.bitAnd st (2 * s - 1) = 0 then gs q' st hi (2 * s) else s) = s
    rw [if_neg fun h => h1 (by simpa using h.1)]

end Lk25

open PySem DL
namespace Lk25
def cellW (p : Int × Int) : W := .ol [.d (.int p.1), .d (.int p.2)]
theorem fzs_cell : ∀ l : List (Int × Int), fzs (l.map cellW) = l.map fun p => D.lst [.int p.1, .int p.2]
  | [] => rfl
  | p :: l => by show fz (cellW p) :: fzs (l.map cellW) = _; rw [fzs_cell]; rfl
theorem nosto_cell : ∀ l : List (Int × Int), nostos (l.map cellW) = true
  | [] => rfl
  | p :: l => by show (true && nostos (l.map cellW)) = true; rw [nosto_cell]; rfl
theorem p__law_store : ∀ ws k kx, ws.length = 1 → S__law_store ws k kx → t__law_store (retE k) (fun x _ => kx x) (startE N__law_store ws) := by
  rintro ws k kx - ⟨ns, rfl, hn, hk⟩
  rw [se__law_store]
  simp only [t__law_store, t__law_store_0_0, dSeq, dNext, dIf, dOrT, dAndT, dNotT, dBl, kBl, dTru, kTru, DL.truD, dOp, dCl, s1, s2, dCons, dNil, dVar, dMov, dC, kLenN, peek, lenW, noDict, lenD, sCmp, sOrd, sEq, kEq, sIn, sIsN, nonW, sInt, sAdd, sMul, sRows, rowD, flat, dsOf, seqW, dRet, dRetN, dDrop, dBrk, dCnt, dAsg, gN, gTp, gsCons, gsNil, DL.gSub, setW, useW, useWs, useD, nosto, nostos, fz, fzs, dCall, dCall0, argsD, argD, dLst, dTup, dIte, dAnd, dOr, dNot, dNeg, dBm, isTy, mApp, sIx, kItem, rowOf, dSl, kSl, dNo, dSo, kInt, kStr, kRepr, kListOf, kIsi, tyN, dFor, dRow, dRng1, dRng2, dComp, wipeE, dYes, dJoin, dJs, dFmt, kFmt, pkS, kI2, kAbs, okq, eqv, okqs, eqvs, kCat, dsOf_map, nostos_d, fzs_d, dChn, dRaise0, dRaise, dTryAs, dCallH, kIsX, dXf, kXf, dChN, dChT, dLinks, dBits, dIxMv, subX_ce, isExn, suE, dropX, dropO, keepX, nox, noxs, List.map_cons, List.map_nil, List.any_cons, List.any_nil, List.getElem?_cons_zero, List.getElem?_cons_succ, List.set_cons_zero, List.set_cons_succ, List.length_cons, List.length_nil, Option.bind_some, Option.map_some, if_true, if_false, Bool.false_eq_true, decide_eq_true_eq, true_and, List.length_map, Bool.not_true, Bool.not_false, Bool.not_eq_true', decide_eq_false_iff_not, Bool.false_bne, eq_self, beq_self_eq_true, Bool.true_bne, ite_self, reduceCtorEq]
  refine ⟨⟨by decide, by decide +kernel⟩, ⟨by decide, by decide +kernel⟩, by decide, ?_⟩
  have gp : (0 : Int) < (10 ^ Int.toNat 60) ^ Int.toNat 10 := Int.pow_pos (Int.pow_pos (by decide))
  generalize ((10 : Int) ^ Int.toNat 60) ^ Int.toNat 10 = G at gp ⊢
  simp only [t__law_store_0_1, dSeq, dNext, dIf, dOrT, dAndT, dNotT, dBl, kBl, dTru, kTru, DL.truD, dOp, dCl, s1, s2, dCons, dNil, dVar, dMov, dC, kLenN, peek, lenW, noDict, lenD, sCmp, sOrd, sEq, kEq, sIn, sIsN, nonW, sInt, sAdd, sMul, sRows, rowD, flat, dsOf, seqW, dRet, dRetN, dDrop, dBrk, dCnt, dAsg, gN, gTp, gsCons, gsNil, DL.gSub, setW, useW, useWs, useD, nosto, nostos, fz, fzs, dCall, dCall0, argsD, argD, dLst, dTup, dIte, dAnd, dOr, dNot, dNeg, dBm, isTy, mApp, sIx, kItem, rowOf, dSl, kSl, dNo, dSo, kInt, kStr, kRepr, kListOf, kIsi, tyN, dFor, dRow, dRng1, dRng2, dComp, wipeE, dYes, dJoin, dJs, dFmt, kFmt, pkS, kI2, kAbs, okq, eqv, okqs, eqvs, kCat, dsOf_map, nostos_d, fzs_d, dChn, dRaise0, dRaise, dTryAs, dCallH, kIsX, dXf, kXf, dChN, dChT, dLinks, dBits, dIxMv, subX_ce, isExn, suE, dropX, dropO, keepX, nox, noxs, List.map_cons, List.map_nil, List.any_cons, List.any_nil, List.getElem?_cons_zero, List.getElem?_cons_succ, List.set_cons_zero, List.set_cons_succ, List.length_cons, List.length_nil, Option.bind_some, Option.map_some, if_true, if_false, Bool.false_eq_true, decide_eq_true_eq, true_and, List.length_map, Bool.not_true, Bool.not_false, Bool.not_eq_true', decide_eq_false_iff_not, Bool.false_bne, eq_self, beq_self_eq_true, Bool.true_bne, ite_self, reduceCtorEq, useWs]
  refine ⟨by decide, by decide, ?_⟩
  simp only [t__law_store_0_2, dSeq, dNext, dIf, dOrT, dAndT, dNotT, dBl, kBl, dTru, kTru, DL.truD, dOp, dCl, s1, s2, dCons, dNil, dVar, dMov, dC, kLenN, peek, lenW, noDict, lenD, sCmp, sOrd, sEq, kEq, sIn, sIsN, nonW, sInt, sAdd, sMul, sRows, rowD, flat, dsOf, seqW, dRet, dRetN, dDrop, dBrk, dCnt, dAsg, gN, gTp, gsCons, gsNil, DL.gSub, setW, useW, useWs, useD, nosto, nostos, fz, fzs, dCall, dCall0, argsD, argD, dLst, dTup, dIte, dAnd, dOr, dNot, dNeg, dBm, isTy, mApp, sIx, kItem, rowOf, dSl, kSl, dNo, dSo, kInt, kStr, kRepr, kListOf, kIsi, tyN, dFor, dRow, dRng1, dRng2, dComp, wipeE, dYes, dJoin, dJs, dFmt, kFmt, pkS, kI2, kAbs, okq, eqv, okqs, eqvs, kCat, dsOf_map, nostos_d, fzs_d, dChn, dRaise0, dRaise, dTryAs, dCallH, kIsX, dXf, kXf, dChN, dChT, dLinks, dBits, dIxMv, subX_ce, isExn, suE, dropX, dropO, keepX, nox, noxs, List.map_cons, List.map_nil, List.any_cons, List.any_nil, List.getElem?_cons_zero, List.getElem?_cons_succ, List.set_cons_zero, List.set_cons_succ, List.length_cons, List.length_nil, Option.bind_some, Option.map_some, if_true, if_false, Bool.false_eq_true, decide_eq_true_eq, true_and, List.length_map, Bool.not_true, Bool.not_false, Bool.not_eq_true', decide_eq_false_iff_not, Bool.false_bne, eq_self, beq_self_eq_true, Bool.true_bne, ite_self, reduceCtorEq, map_d]
  refine forL_ind (fun r env => ∃ (l : List (Int × Int)) (o : Option W), env = [some (.d (.klst (ns.map .int))), some (.d (.int G)), some (.ol (l.map cellW)), o] ∧ (∀ w ∈ r, ∃ i, w = .d (.int i)) ∧ (∀ p ∈ l, 0 ≤ p.2) ∧ l.length + r.length ≤ 63) (fun w r env K h hK => ?_) ⟨[], none, rfl, fun w m => ?_, fun _ m => (by simp at m), by simpa using hn⟩ (fun e h => ?_)
  · obtain ⟨l, o, rfl, hw, hl, hn⟩ := h
    obtain ⟨i, rfl⟩ := hw _ List.mem_cons_self
    have hw' : ∀ w ∈ r, ∃ i, w = .d (.int i) := fun w m => hw w (List.mem_cons_of_mem _ m)
    simp only [List.length_cons] at hn
    have next : ∀ t n o, 0 ≤ n → K [some (.d (.klst (ns.map .int))), some (.d (.int G)), some (.ol (l.map cellW ++ [.ol [.d (.int t), .d (.int n)]])), o] := fun t n o h0 =>
      hK _ ⟨l ++ [(t, n)], o, by rw [List.map_append]; rfl, hw', fun p m => (List.mem_append.mp m).elim (hl p) fun m => by rw [List.mem_singleton.mp m]; exact h0, by rw [List.length_append]; simp only [List.length_cons, List.length_nil]; omega⟩
    have lo : l.length < sizeLine := by rw [sizeLine_eq]; omega
    have A : t__law_store_2_0 { nx := K, rt := (retE k).rt, bk := fun e1 => t__law_store_0_3 (retE k) (fun x _ => kx x) e1, ct := K } (fun x _ => kx x) [some (.d (.klst (ns.map .int))), some (.d (.int G)), some (.ol (l.map cellW)), some (.d (.int i))] := by
      simp only [t__law_store_2_0, dSeq, dNext, dIf, dOrT, dAndT, dNotT, dBl, kBl, dTru, kTru, DL.truD, dOp, dCl, s1, s2, dCons, dNil, dVar, dMov, dC, kLenN, peek, lenW, noDict, lenD, sCmp, sOrd, sEq, kEq, sIn, sIsN, nonW, sInt, sAdd, sMul, sRows, rowD, flat, dsOf, seqW, dRet, dRetN, dDrop, dBrk, dCnt, dAsg, gN, gTp, gsCons, gsNil, DL.gSub, setW, useW, useWs, useD, nosto, nostos, fz, fzs, dCall, dCall0, argsD, argD, dLst, dTup, dIte, dAnd, dOr, dNot, dNeg, dBm, isTy, mApp, sIx, kItem, rowOf, dSl, kSl, dNo, dSo, kInt, kStr, kRepr, kListOf, kIsi, tyN, dFor, dRow, dRng1, dRng2, dComp, wipeE, dYes, dJoin, dJs, dFmt, kFmt, pkS, kI2, kAbs, okq, eqv, okqs, eqvs, kCat, dsOf_map, nostos_d, fzs_d, dChn, dRaise0, dRaise, dTryAs, dCallH, kIsX, dXf, kXf, dChN, dChT, dLinks, dBits, dIxMv, subX_ce, isExn, suE, dropX, dropO, keepX, nox, noxs, List.map_cons, List.map_nil, List.any_cons, List.any_nil, List.getElem?_cons_zero, List.getElem?_cons_succ, List.set_cons_zero, List.set_cons_succ, List.length_cons, List.length_nil, Option.bind_some, Option.map_some, if_true, if_false, Bool.false_eq_true, decide_eq_true_eq, true_and, List.length_map, Bool.not_true, Bool.not_false, Bool.not_eq_true', decide_eq_false_iff_not, Bool.false_bne, eq_self, beq_self_eq_true, Bool.true_bne, ite_self, reduceCtorEq, useWs]
      exact ⟨gp, szl (by decide), rfl, lo, next _ _ _ (Int.emod_nonneg _ (by omega))⟩
    have B : t__law_store_3_0 { nx := K, rt := (retE k).rt, bk := fun e1 => t__law_store_0_3 (retE k) (fun x _ => kx x) e1, ct := K } (fun x _ => kx x) [some (.d (.klst (ns.map .int))), some (.d (.int G)), some (.ol (l.map cellW)), some (.d (.int i))] := by
      simp only [t__law_store_3_0, dSeq, dNext, dIf, dOrT, dAndT, dNotT, dBl, kBl, dTru, kTru, DL.truD, dOp, dCl, s1, s2, dCons, dNil, dVar, dMov, dC, kLenN, peek, lenW, noDict, lenD, sCmp, sOrd, sEq, kEq, sIn, sIsN, nonW, sInt, sAdd, sMul, sRows, rowD, flat, dsOf, seqW, dRet, dRetN, dDrop, dBrk, dCnt, dAsg, gN, gTp, gsCons, gsNil, DL.gSub, setW, useW, useWs, useD, nosto, nostos, fz, fzs, dCall, dCall0, argsD, argD, dLst, dTup, dIte, dAnd, dOr, dNot, dNeg, dBm, isTy, mApp, sIx, kItem, rowOf, dSl, kSl, dNo, dSo, kInt, kStr, kRepr, kListOf, kIsi, tyN, dFor, dRow, dRng1, dRng2, dComp, wipeE, dYes, dJoin, dJs, dFmt, kFmt, pkS, kI2, kAbs, okq, eqv, okqs, eqvs, kCat, dsOf_map, nostos_d, fzs_d, dChn, dRaise0, dRaise, dTryAs, dCallH, kIsX, dXf, kXf, dChN, dChT, dLinks, dBits, dIxMv, subX_ce, isExn, suE, dropX, dropO, keepX, nox, noxs, List.map_cons, List.map_nil, List.any_cons, List.any_nil, List.getElem?_cons_zero, List.getElem?_cons_succ, List.set_cons_zero, List.set_cons_succ, List.length_cons, List.length_nil, Option.bind_some, Option.map_some, if_true, if_false, Bool.false_eq_true, decide_eq_true_eq, true_and, List.length_map, Bool.not_true, Bool.not_false, Bool.not_eq_true', decide_eq_false_iff_not, Bool.false_bne, eq_self, beq_self_eq_true, Bool.true_bne, ite_self, reduceCtorEq, useWs]
      exact ⟨by decide, szl (by decide), rfl, lo, next _ _ _ (Int.emod_nonneg _ (by decide))⟩
    simp only [t__law_store_1_0, dSeq, dNext, dIf, dOrT, dAndT, dNotT, dBl, kBl, dTru, kTru, DL.truD, dOp, dCl, s1, s2, dCons, dNil, dVar, dMov, dC, kLenN, peek, lenW, noDict, lenD, sCmp, sOrd, sEq, kEq, sIn, sIsN, nonW, sInt, sAdd, sMul, sRows, rowD, flat, dsOf, seqW, dRet, dRetN, dDrop, dBrk, dCnt, dAsg, gN, gTp, gsCons, gsNil, DL.gSub, setW, useW, useWs, useD, nosto, nostos, fz, fzs, dCall, dCall0, argsD, argD, dLst, dTup, dIte, dAnd, dOr, dNot, dNeg, dBm, isTy, mApp, sIx, kItem, rowOf, dSl, kSl, dNo, dSo, kInt, kStr, kRepr, kListOf, kIsi, tyN, dFor, dRow, dRng1, dRng2, dComp, wipeE, dYes, dJoin, dJs, dFmt, kFmt, pkS, kI2, kAbs, okq, eqv, okqs, eqvs, kCat, dsOf_map, nostos_d, fzs_d, dChn, dRaise0, dRaise, dTryAs, dCallH, kIsX, dXf, kXf, dChN, dChT, dLinks, dBits, dIxMv, subX_ce, isExn, suE, dropX, dropO, keepX, nox, noxs, List.map_cons, List.map_nil, List.any_cons, List.any_nil, List.getElem?_cons_zero, List.getElem?_cons_succ, List.set_cons_zero, List.set_cons_succ, List.length_cons, List.length_nil, Option.bind_some, Option.map_some, if_true, if_false, Bool.false_eq_true, decide_eq_true_eq, true_and, List.length_map, Bool.not_true, Bool.not_false, Bool.not_eq_true', decide_eq_false_iff_not, Bool.false_bne, eq_self, beq_self_eq_true, Bool.true_bne, ite_self, reduceCtorEq]
    refine ⟨by decide, ⟨by decide, by decide +kernel⟩, ?_⟩
    split
    · exact A
    · refine ⟨⟨by decide, by decide +kernel⟩, ?_⟩
      split
      · exact A
      · exact B
  · obtain ⟨i, _, rfl⟩ := List.mem_map.mp m
    exact ⟨_, rfl⟩
  · obtain ⟨l, o, rfl, hw, hl, hn⟩ := h
    simp only [t__law_store_0_3, dSeq, dNext, dIf, dOrT, dAndT, dNotT, dBl, kBl, dTru, kTru, DL.truD, dOp, dCl, s1, s2, dCons, dNil, dVar, dMov, dC, kLenN, peek, lenW, noDict, lenD, sCmp, sOrd, sEq, kEq, sIn, sIsN, nonW, sInt, sAdd, sMul, sRows, rowD, flat, dsOf, seqW, dRet, dRetN, dDrop, dBrk, dCnt, dAsg, gN, gTp, gsCons, gsNil, DL.gSub, setW, useW, useWs, useD, nosto, nostos, fz, fzs, dCall, dCall0, argsD, argD, dLst, dTup, dIte, dAnd, dOr, dNot, dNeg, dBm, isTy, mApp, sIx, kItem, rowOf, dSl, kSl, dNo, dSo, kInt, kStr, kRepr, kListOf, kIsi, tyN, dFor, dRow, dRng1, dRng2, dComp, wipeE, dYes, dJoin, dJs, dFmt, kFmt, pkS, kI2, kAbs, okq, eqv, okqs, eqvs, kCat, dsOf_map, nostos_d, fzs_d, dChn, dRaise0, dRaise, dTryAs, dCallH, kIsX, dXf, kXf, dChN, dChT, dLinks, dBits, dIxMv, subX_ce, isExn, suE, dropX, dropO, keepX, nox, noxs, List.map_cons, List.map_nil, List.any_cons, List.any_nil, List.getElem?_cons_zero, List.getElem?_cons_succ, List.set_cons_zero, List.set_cons_succ, List.length_cons, List.length_nil, Option.bind_some, Option.map_some, if_true, if_false, Bool.false_eq_true, decide_eq_true_eq, true_and, List.length_map, Bool.not_true, Bool.not_false, Bool.not_eq_true', decide_eq_false_iff_not, Bool.false_bne, eq_self, beq_self_eq_true, Bool.true_bne, ite_self, reduceCtorEq, useWs, nosto_cell, fzs_cell, retE]
    refine ⟨Nat.zero_le _, mulR (by omega) (by have := hn; simp only [List.length_nil] at this; omega), szl (by decide), _, rfl, hk _ _ (fun x m => ?_) (by omega) (by have := hn; simp only [List.length_nil] at this; omega)⟩
    obtain ⟨p, mp, rfl⟩ := List.mem_map.mp m
    exact hl p mp

end Lk25

open PySem DL
namespace Lk25
theorem p__law_take : ∀ m ws, 1 ≤ m → m < 1073741824 → goodS ws → t__law_take (takeE m) (fun _ _ => False) (startE N__law_take [.oL ws, .d (.int m)]) := by
  rintro m ws m1 m2 ⟨xs, p, g, f, r, c, rfl, hx, p0, g0, r0, r1⟩
  rw [se__law_take]
  -- the end: a number below m
  have fin : ∀ xs p g f r c i o2 o4, (∀ x ∈ xs, cellOk x) → 0 ≤ p → 0 ≤ g → 0 ≤ r → r < 2147483647 → 0 ≤ i → i < m → (takeE m).rt (.at_ 3) [some (.oL [.d (.cel xs), .d (.int p), .d (.int g), .d (.int f), .d (.int r), .d (.int c)]), some (.d (.int m)), o2, some (.d (.int i)), o4] := fun xs p g f r c i o2 o4 h1 h2 h3 h4 h5 h6 h7 => ⟨i, _, rfl, h6, h7, rfl, xs, p, g, f, r, c, rfl, h1, h2, h3, h4, h5⟩
  have tail : ∀ xs p g f r c o2, (∀ x ∈ xs, cellOk x) → 0 ≤ p → 0 ≤ g → 0 ≤ r → r < 2147483647 → t__law_take_0_2 (takeE m) (fun _ _ => False) [some (.oL [.d (.cel xs), .d (.int p), .d (.int g), .d (.int f), .d (.int r), .d (.int c)]), some (.d (.int m)), o2, none, none] := fun xs p g f r c o2 h1 h2 h3 h4 h5 => by
    simp only [t__law_take_0_2, dSeq, dNext, dIf, dOrT, dAndT, dNotT, dBl, kBl, dTru, kTru, DL.truD, dOp, dCl, s1, s2, dCons, dNil, dVar, dMov, dC, kLenN, peek, lenW, noDict, lenD, sCmp, sOrd, sEq, kEq, sIn, sIsN, nonW, sInt, sAdd, sMul, sRows, rowD, flat, dsOf, seqW, dRet, dRetN, dDrop, dBrk, dCnt, dAsg, gN, gTp, gsCons, gsNil, DL.gSub, setW, useW, useWs, useD, nosto, nostos, fz, fzs, dCall, dCall0, argsD, argD, dLst, dTup, dIte, dAnd, dOr, dNot, dNeg, dBm, isTy, mApp, sIx, kItem, rowOf, dSl, kSl, dNo, dSo, kInt, kStr, kRepr, kListOf, kIsi, tyN, dFor, dRow, dRng1, dRng2, dComp, wipeE, dYes, dJoin, dJs, dFmt, kFmt, pkS, kI2, kAbs, okq, eqv, okqs, eqvs, kCat, dsOf_map, nostos_d, fzs_d, dChn, dRaise0, dRaise, dTryAs, dCallH, kIsX, dXf, kXf, dChN, dChT, dLinks, dBits, dIxMv, subX_ce, isExn, suE, dropX, dropO, keepX, nox, noxs, List.map_cons, List.map_nil, List.any_cons, List.any_nil, List.getElem?_cons_zero, List.getElem?_cons_succ, List.set_cons_zero, List.set_cons_succ, List.length_cons, List.length_nil, Option.bind_some, Option.map_some, if_true, if_false, Bool.false_eq_true, decide_eq_true_eq, true_and, List.length_map, Bool.not_true, Bool.not_false, Bool.not_eq_true', decide_eq_false_iff_not, Bool.false_bne, eq_self, beq_self_eq_true, Bool.true_bne, ite_self, reduceCtorEq, a6_2]
    split
    · simp only [t__law_take_1_0, dSeq, dNext, dIf, dOrT, dAndT, dNotT, dBl, kBl, dTru, kTru, DL.truD, dOp, dCl, s1, s2, dCons, dNil, dVar, dMov, dC, kLenN, peek, lenW, noDict, lenD, sCmp, sOrd, sEq, kEq, sIn, sIsN, nonW, sInt, sAdd, sMul, sRows, rowD, flat, dsOf, seqW, dRet, dRetN, dDrop, dBrk, dCnt, dAsg, gN, gTp, gsCons, gsNil, DL.gSub, setW, useW, useWs, useD, nosto, nostos, fz, fzs, dCall, dCall0, argsD, argD, dLst, dTup, dIte, dAnd, dOr, dNot, dNeg, dBm, isTy, mApp, sIx, kItem, rowOf, dSl, kSl, dNo, dSo, kInt, kStr, kRepr, kListOf, kIsi, tyN, dFor, dRow, dRng1, dRng2, dComp, wipeE, dYes, dJoin, dJs, dFmt, kFmt, pkS, kI2, kAbs, okq, eqv, okqs, eqvs, kCat, dsOf_map, nostos_d, fzs_d, dChn, dRaise0, dRaise, dTryAs, dCallH, kIsX, dXf, kXf, dChN, dChT, dLinks, dBits, dIxMv, subX_ce, isExn, suE, dropX, dropO, keepX, nox, noxs, List.map_cons, List.map_nil, List.any_cons, List.any_nil, List.getElem?_cons_zero, List.getElem?_cons_succ, List.set_cons_zero, List.set_cons_succ, List.length_cons, List.length_nil, Option.bind_some, Option.map_some, if_true, if_false, Bool.false_eq_true, decide_eq_true_eq, true_and, List.length_map, Bool.not_true, Bool.not_false, Bool.not_eq_true', decide_eq_false_iff_not, Bool.false_bne, eq_self, beq_self_eq_true, Bool.true_bne, ite_self, reduceCtorEq, a6_2]
      refine ⟨by omega, by decide, ?_⟩
      simp only [t__law_take_1_1, dSeq, dNext, dIf, dOrT, dAndT, dNotT, dBl, kBl, dTru, kTru, DL.truD, dOp, dCl, s1, s2, dCons, dNil, dVar, dMov, dC, kLenN, peek, lenW, noDict, lenD, sCmp, sOrd, sEq, kEq, sIn, sIsN, nonW, sInt, sAdd, sMul, sRows, rowD, flat, dsOf, seqW, dRet, dRetN, dDrop, dBrk, dCnt, dAsg, gN, gTp, gsCons, gsNil, DL.gSub, setW, useW, useWs, useD, nosto, nostos, fz, fzs, dCall, dCall0, argsD, argD, dLst, dTup, dIte, dAnd, dOr, dNot, dNeg, dBm, isTy, mApp, sIx, kItem, rowOf, dSl, kSl, dNo, dSo, kInt, kStr, kRepr, kListOf, kIsi, tyN, dFor, dRow, dRng1, dRng2, dComp, wipeE, dYes, dJoin, dJs, dFmt, kFmt, pkS, kI2, kAbs, okq, eqv, okqs, eqvs, kCat, dsOf_map, nostos_d, fzs_d, dChn, dRaise0, dRaise, dTryAs, dCallH, kIsX, dXf, kXf, dChN, dChT, dLinks, dBits, dIxMv, subX_ce, isExn, suE, dropX, dropO, keepX, nox, noxs, List.map_cons, List.map_nil, List.any_cons, List.any_nil, List.getElem?_cons_zero, List.getElem?_cons_succ, List.set_cons_zero, List.set_cons_succ, List.length_cons, List.length_nil, Option.bind_some, Option.map_some, if_true, if_false, Bool.false_eq_true, decide_eq_true_eq, true_and, List.length_map, Bool.not_true, Bool.not_false, Bool.not_eq_true', decide_eq_false_iff_not, Bool.false_bne, eq_self, beq_self_eq_true, Bool.true_bne, ite_self, reduceCtorEq, a6_2, i6_2]
      refine ⟨⟨by omega, m2⟩, ?_⟩
      simp only [t__law_take_1_2, dSeq, dNext, dIf, dOrT, dAndT, dNotT, dBl, kBl, dTru, kTru, DL.truD, dOp, dCl, s1, s2, dCons, dNil, dVar, dMov, dC, kLenN, peek, lenW, noDict, lenD, sCmp, sOrd, sEq, kEq, sIn, sIsN, nonW, sInt, sAdd, sMul, sRows, rowD, flat, dsOf, seqW, dRet, dRetN, dDrop, dBrk, dCnt, dAsg, gN, gTp, gsCons, gsNil, DL.gSub, setW, useW, useWs, useD, nosto, nostos, fz, fzs, dCall, dCall0, argsD, argD, dLst, dTup, dIte, dAnd, dOr, dNot, dNeg, dBm, isTy, mApp, sIx, kItem, rowOf, dSl, kSl, dNo, dSo, kInt, kStr, kRepr, kListOf, kIsi, tyN, dFor, dRow, dRng1, dRng2, dComp, wipeE, dYes, dJoin, dJs, dFmt, kFmt, pkS, kI2, kAbs, okq, eqv, okqs, eqvs, kCat, dsOf_map, nostos_d, fzs_d, dChn, dRaise0, dRaise, dTryAs, dCallH, kIsX, dXf, kXf, dChN, dChT, dLinks, dBits, dIxMv, subX_ce, isExn, suE, dropX, dropO, keepX, nox, noxs, List.map_cons, List.map_nil, List.any_cons, List.any_nil, List.getElem?_cons_zero, List.getElem?_cons_succ, List.set_cons_zero, List.set_cons_succ, List.length_cons, List.length_nil, Option.bind_some, Option.map_some, if_true, if_false, Bool.false_eq_true, decide_eq_true_eq, true_and, List.length_map, Bool.not_true, Bool.not_false, Bool.not_eq_true', decide_eq_false_iff_not, Bool.false_bne, eq_self, beq_self_eq_true, Bool.true_bne, ite_self, reduceCtorEq]
      exact fin _ _ _ _ _ _ _ _ _ h1 h2 (Int.ediv_nonneg h3 (by omega)) h4 h5 (Int.emod_nonneg _ (by omega)) (Int.emod_lt_of_pos _ (by omega))
    · simp only [t__law_take_0_3, dSeq, dNext, dIf, dOrT, dAndT, dNotT, dBl, kBl, dTru, kTru, DL.truD, dOp, dCl, s1, s2, dCons, dNil, dVar, dMov, dC, kLenN, peek, lenW, noDict, lenD, sCmp, sOrd, sEq, kEq, sIn, sIsN, nonW, sInt, sAdd, sMul, sRows, rowD, flat, dsOf, seqW, dRet, dRetN, dDrop, dBrk, dCnt, dAsg, gN, gTp, gsCons, gsNil, DL.gSub, setW, useW, useWs, useD, nosto, nostos, fz, fzs, dCall, dCall0, argsD, argD, dLst, dTup, dIte, dAnd, dOr, dNot, dNeg, dBm, isTy, mApp, sIx, kItem, rowOf, dSl, kSl, dNo, dSo, kInt, kStr, kRepr, kListOf, kIsi, tyN, dFor, dRow, dRng1, dRng2, dComp, wipeE, dYes, dJoin, dJs, dFmt, kFmt, pkS, kI2, kAbs, okq, eqv, okqs, eqvs, kCat, dsOf_map, nostos_d, fzs_d, dChn, dRaise0, dRaise, dTryAs, dCallH, kIsX, dXf, kXf, dChN, dChT, dLinks, dBits, dIxMv, subX_ce, isExn, suE, dropX, dropO, keepX, nox, noxs, List.map_cons, List.map_nil, List.any_cons, List.any_nil, List.getElem?_cons_zero, List.getElem?_cons_succ, List.set_cons_zero, List.set_cons_succ, List.length_cons, List.length_nil, Option.bind_some, Option.map_some, if_true, if_false, Bool.false_eq_true, decide_eq_true_eq, true_and, List.length_map, Bool.not_true, Bool.not_false, Bool.not_eq_true', decide_eq_false_iff_not, Bool.false_bne, eq_self, beq_self_eq_true, Bool.true_bne, ite_self, reduceCtorEq, a6_3, i6_3]
      simp only [t__law_take_0_4, dSeq, dNext, dIf, dOrT, dAndT, dNotT, dBl, kBl, dTru, kTru, DL.truD, dOp, dCl, s1, s2, dCons, dNil, dVar, dMov, dC, kLenN, peek, lenW, noDict, lenD, sCmp, sOrd, sEq, kEq, sIn, sIsN, nonW, sInt, sAdd, sMul, sRows, rowD, flat, dsOf, seqW, dRet, dRetN, dDrop, dBrk, dCnt, dAsg, gN, gTp, gsCons, gsNil, DL.gSub, setW, useW, useWs, useD, nosto, nostos, fz, fzs, dCall, dCall0, argsD, argD, dLst, dTup, dIte, dAnd, dOr, dNot, dNeg, dBm, isTy, mApp, sIx, kItem, rowOf, dSl, kSl, dNo, dSo, kInt, kStr, kRepr, kListOf, kIsi, tyN, dFor, dRow, dRng1, dRng2, dComp, wipeE, dYes, dJoin, dJs, dFmt, kFmt, pkS, kI2, kAbs, okq, eqv, okqs, eqvs, kCat, dsOf_map, nostos_d, fzs_d, dChn, dRaise0, dRaise, dTryAs, dCallH, kIsX, dXf, kXf, dChN, dChT, dLinks, dBits, dIxMv, subX_ce, isExn, suE, dropX, dropO, keepX, nox, noxs, List.map_cons, List.map_nil, List.any_cons, List.any_nil, List.getElem?_cons_zero, List.getElem?_cons_succ, List.set_cons_zero, List.set_cons_succ, List.length_cons, List.length_nil, Option.bind_some, Option.map_some, if_true, if_false, Bool.false_eq_true, decide_eq_true_eq, true_and, List.length_map, Bool.not_true, Bool.not_false, Bool.not_eq_true', decide_eq_false_iff_not, Bool.false_bne, eq_self, beq_self_eq_true, Bool.true_bne, ite_self, reduceCtorEq, a6_4, a6_5, i6_4]
      refine ⟨mulR (by decide) (by decide), mulR (by decide) (by decide), by decide, ?_⟩
      have q0 := Int.emod_nonneg (r * 48271 + c * 7919 + 11) (b := 2147483647) (by decide)
      have q1 := Int.emod_lt_of_pos (r * 48271 + c * 7919 + 11) (b := 2147483647) (by decide)
      generalize (r * 48271 + c * 7919 + 11) % 2147483647 = r2 at q0 q1 ⊢
      simp only [t__law_take_0_5, dSeq, dNext, dIf, dOrT, dAndT, dNotT, dBl, kBl, dTru, kTru, DL.truD, dOp, dCl, s1, s2, dCons, dNil, dVar, dMov, dC, kLenN, peek, lenW, noDict, lenD, sCmp, sOrd, sEq, kEq, sIn, sIsN, nonW, sInt, sAdd, sMul, sRows, rowD, flat, dsOf, seqW, dRet, dRetN, dDrop, dBrk, dCnt, dAsg, gN, gTp, gsCons, gsNil, DL.gSub, setW, useW, useWs, useD, nosto, nostos, fz, fzs, dCall, dCall0, argsD, argD, dLst, dTup, dIte, dAnd, dOr, dNot, dNeg, dBm, isTy, mApp, sIx, kItem, rowOf, dSl, kSl, dNo, dSo, kInt, kStr, kRepr, kListOf, kIsi, tyN, dFor, dRow, dRng1, dRng2, dComp, wipeE, dYes, dJoin, dJs, dFmt, kFmt, pkS, kI2, kAbs, okq, eqv, okqs, eqvs, kCat, dsOf_map, nostos_d, fzs_d, dChn, dRaise0, dRaise, dTryAs, dCallH, kIsX, dXf, kXf, dChN, dChT, dLinks, dBits, dIxMv, subX_ce, isExn, suE, dropX, dropO, keepX, nox, noxs, List.map_cons, List.map_nil, List.any_cons, List.any_nil, List.getElem?_cons_zero, List.getElem?_cons_succ, List.set_cons_zero, List.set_cons_succ, List.length_cons, List.length_nil, Option.bind_some, Option.map_some, if_true, if_false, Bool.false_eq_true, decide_eq_true_eq, true_and, List.length_map, Bool.not_true, Bool.not_false, Bool.not_eq_true', decide_eq_false_iff_not, Bool.false_bne, eq_self, beq_self_eq_true, Bool.true_bne, ite_self, reduceCtorEq, a6_4, a6_5]
      refine ⟨mulR (by omega) (by omega), mulR (by decide) (by decide), by decide, by decide, ?_⟩
      simp only [t__law_take_0_6, dSeq, dNext, dIf, dOrT, dAndT, dNotT, dBl, kBl, dTru, kTru, DL.truD, dOp, dCl, s1, s2, dCons, dNil, dVar, dMov, dC, kLenN, peek, lenW, noDict, lenD, sCmp, sOrd, sEq, kEq, sIn, sIsN, nonW, sInt, sAdd, sMul, sRows, rowD, flat, dsOf, seqW, dRet, dRetN, dDrop, dBrk, dCnt, dAsg, gN, gTp, gsCons, gsNil, DL.gSub, setW, useW, useWs, useD, nosto, nostos, fz, fzs, dCall, dCall0, argsD, argD, dLst, dTup, dIte, dAnd, dOr, dNot, dNeg, dBm, isTy, mApp, sIx, kItem, rowOf, dSl, kSl, dNo, dSo, kInt, kStr, kRepr, kListOf, kIsi, tyN, dFor, dRow, dRng1, dRng2, dComp, wipeE, dYes, dJoin, dJs, dFmt, kFmt, pkS, kI2, kAbs, okq, eqv, okqs, eqvs, kCat, dsOf_map, nostos_d, fzs_d, dChn, dRaise0, dRaise, dTryAs, dCallH, kIsX, dXf, kXf, dChN, dChT, dLinks, dBits, dIxMv, subX_ce, isExn, suE, dropX, dropO, keepX, nox, noxs, List.map_cons, List.map_nil, List.any_cons, List.any_nil, List.getElem?_cons_zero, List.getElem?_cons_succ, List.set_cons_zero, List.set_cons_succ, List.length_cons, List.length_nil, Option.bind_some, Option.map_some, if_true, if_false, Bool.false_eq_true, decide_eq_true_eq, true_and, List.length_map, Bool.not_true, Bool.not_false, Bool.not_eq_true', decide_eq_false_iff_not, Bool.false_bne, eq_self, beq_self_eq_true, Bool.true_bne, ite_self, reduceCtorEq, a6_4]
      refine ⟨mulR (by decide) (by decide), ⟨by decide, by decide⟩, by decide, by decide, ?_⟩
      simp only [t__law_take_0_7, dSeq, dNext, dIf, dOrT, dAndT, dNotT, dBl, kBl, dTru, kTru, DL.truD, dOp, dCl, s1, s2, dCons, dNil, dVar, dMov, dC, kLenN, peek, lenW, noDict, lenD, sCmp, sOrd, sEq, kEq, sIn, sIsN, nonW, sInt, sAdd, sMul, sRows, rowD, flat, dsOf, seqW, dRet, dRetN, dDrop, dBrk, dCnt, dAsg, gN, gTp, gsCons, gsNil, DL.gSub, setW, useW, useWs, useD, nosto, nostos, fz, fzs, dCall, dCall0, argsD, argD, dLst, dTup, dIte, dAnd, dOr, dNot, dNeg, dBm, isTy, mApp, sIx, kItem, rowOf, dSl, kSl, dNo, dSo, kInt, kStr, kRepr, kListOf, kIsi, tyN, dFor, dRow, dRng1, dRng2, dComp, wipeE, dYes, dJoin, dJs, dFmt, kFmt, pkS, kI2, kAbs, okq, eqv, okqs, eqvs, kCat, dsOf_map, nostos_d, fzs_d, dChn, dRaise0, dRaise, dTryAs, dCallH, kIsX, dXf, kXf, dChN, dChT, dLinks, dBits, dIxMv, subX_ce, isExn, suE, dropX, dropO, keepX, nox, noxs, List.map_cons, List.map_nil, List.any_cons, List.any_nil, List.getElem?_cons_zero, List.getElem?_cons_succ, List.set_cons_zero, List.set_cons_succ, List.length_cons, List.length_nil, Option.bind_some, Option.map_some, if_true, if_false, Bool.false_eq_true, decide_eq_true_eq, true_and, List.length_map, Bool.not_true, Bool.not_false, Bool.not_eq_true', decide_eq_false_iff_not, Bool.false_bne, eq_self, beq_self_eq_true, Bool.true_bne, ite_self, reduceCtorEq]
      refine ⟨⟨by decide, by decide⟩, by omega, ?_⟩
      exact ⟨_, _, rfl, Int.emod_nonneg _ (by omega), Int.emod_lt_of_pos _ (by omega), rfl, xs, _, _, _, _, _, rfl, h1, h2, h3, q0, q1⟩
  simp only [t__law_take, t__law_take_0_0, dSeq, dNext, dIf, dOrT, dAndT, dNotT, dBl, kBl, dTru, kTru, DL.truD, dOp, dCl, s1, s2, dCons, dNil, dVar, dMov, dC, kLenN, peek, lenW, noDict, lenD, sCmp, sOrd, sEq, kEq, sIn, sIsN, nonW, sInt, sAdd, sMul, sRows, rowD, flat, dsOf, seqW, dRet, dRetN, dDrop, dBrk, dCnt, dAsg, gN, gTp, gsCons, gsNil, DL.gSub, setW, useW, useWs, useD, nosto, nostos, fz, fzs, dCall, dCall0, argsD, argD, dLst, dTup, dIte, dAnd, dOr, dNot, dNeg, dBm, isTy, mApp, sIx, kItem, rowOf, dSl, kSl, dNo, dSo, kInt, kStr, kRepr, kListOf, kIsi, tyN, dFor, dRow, dRng1, dRng2, dComp, wipeE, dYes, dJoin, dJs, dFmt, kFmt, pkS, kI2, kAbs, okq, eqv, okqs, eqvs, kCat, dsOf_map, nostos_d, fzs_d, dChn, dRaise0, dRaise, dTryAs, dCallH, kIsX, dXf, kXf, dChN, dChT, dLinks, dBits, dIxMv, subX_ce, isExn, suE, dropX, dropO, keepX, nox, noxs, List.map_cons, List.map_nil, List.any_cons, List.any_nil, List.getElem?_cons_zero, List.getElem?_cons_succ, List.set_cons_zero, List.set_cons_succ, List.length_cons, List.length_nil, Option.bind_some, Option.map_some, if_true, if_false, Bool.false_eq_true, decide_eq_true_eq, true_and, List.length_map, Bool.not_true, Bool.not_false, Bool.not_eq_true', decide_eq_false_iff_not, Bool.false_bne, eq_self, beq_self_eq_true, Bool.true_bne, ite_self, reduceCtorEq, a6_5, i6_5]
  simp only [t__law_take_0_1, dSeq, dNext, dIf, dOrT, dAndT, dNotT, dBl, kBl, dTru, kTru, DL.truD, dOp, dCl, s1, s2, dCons, dNil, dVar, dMov, dC, kLenN, peek, lenW, noDict, lenD, sCmp, sOrd, sEq, kEq, sIn, sIsN, nonW, sInt, sAdd, sMul, sRows, rowD, flat, dsOf, seqW, dRet, dRetN, dDrop, dBrk, dCnt, dAsg, gN, gTp, gsCons, gsNil, DL.gSub, setW, useW, useWs, useD, nosto, nostos, fz, fzs, dCall, dCall0, argsD, argD, dLst, dTup, dIte, dAnd, dOr, dNot, dNeg, dBm, isTy, mApp, sIx, kItem, rowOf, dSl, kSl, dNo, dSo, kInt, kStr, kRepr, kListOf, kIsi, tyN, dFor, dRow, dRng1, dRng2, dComp, wipeE, dYes, dJoin, dJs, dFmt, kFmt, pkS, kI2, kAbs, okq, eqv, okqs, eqvs, kCat, dsOf_map, nostos_d, fzs_d, dChn, dRaise0, dRaise, dTryAs, dCallH, kIsX, dXf, kXf, dChN, dChT, dLinks, dBits, dIxMv, subX_ce, isExn, suE, dropX, dropO, keepX, nox, noxs, List.map_cons, List.map_nil, List.any_cons, List.any_nil, List.getElem?_cons_zero, List.getElem?_cons_succ, List.set_cons_zero, List.set_cons_succ, List.length_cons, List.length_nil, Option.bind_some, Option.map_some, if_true, if_false, Bool.false_eq_true, decide_eq_true_eq, true_and, List.length_map, Bool.not_true, Bool.not_false, Bool.not_eq_true', decide_eq_false_iff_not, Bool.false_bne, eq_self, beq_self_eq_true, Bool.true_bne, ite_self, reduceCtorEq, a6_0, a6_1, a6_2, a6_3, Bool.false_bne]
  split
  rotate_left
  · exact tail _ _ _ _ _ _ _ hx p0 g0 r0 r1
  split
  rotate_left
  · exact tail _ _ _ _ _ _ _ hx p0 g0 r0 r1
  refine ⟨Nat.zero_le _, ?_⟩
  split
  rotate_left
  · exact tail _ _ _ _ _ _ _ hx p0 g0 r0 r1
  rename_i hp
  obtain ⟨j, rfl⟩ : ∃ j : Nat, p = j := ⟨p.toNat, by omega⟩
  have hj : j < xs.length := by omega
  obtain ⟨x, ex⟩ : ∃ x, xs[j]? = some x := ⟨xs[j], List.getElem?_eq_getElem hj⟩
  have ea : L2.atI (xs.map W.d) (j : Int) = some (W.d x) := L2.atI_nat (by rw [List.getElem?_map, ex]; rfl)
  have cx := hx x (List.mem_of_getElem? ex)
  obtain ⟨t, n, rfl, n0⟩ : ∃ t n, x = .lst [.int t, .int n] ∧ 0 ≤ n := by
    unfold cellOk at cx
    split at cx
    · exact ⟨_, _, rfl, cx⟩
    · exact cx.elim
  simp only [t__law_take_2_0, dSeq, dNext, dIf, dOrT, dAndT, dNotT, dBl, kBl, dTru, kTru, DL.truD, dOp, dCl, s1, s2, dCons, dNil, dVar, dMov, dC, kLenN, peek, lenW, noDict, lenD, sCmp, sOrd, sEq, kEq, sIn, sIsN, nonW, sInt, sAdd, sMul, sRows, rowD, flat, dsOf, seqW, dRet, dRetN, dDrop, dBrk, dCnt, dAsg, gN, gTp, gsCons, gsNil, DL.gSub, setW, useW, useWs, useD, nosto, nostos, fz, fzs, dCall, dCall0, argsD, argD, dLst, dTup, dIte, dAnd, dOr, dNot, dNeg, dBm, isTy, mApp, sIx, kItem, rowOf, dSl, kSl, dNo, dSo, kInt, kStr, kRepr, kListOf, kIsi, tyN, dFor, dRow, dRng1, dRng2, dComp, wipeE, dYes, dJoin, dJs, dFmt, kFmt, pkS, kI2, kAbs, okq, eqv, okqs, eqvs, kCat, dsOf_map, nostos_d, fzs_d, dChn, dRaise0, dRaise, dTryAs, dCallH, kIsX, dXf, kXf, dChN, dChT, dLinks, dBits, dIxMv, subX_ce, isExn, suE, dropX, dropO, keepX, nox, noxs, List.map_cons, List.map_nil, List.any_cons, List.any_nil, List.getElem?_cons_zero, List.getElem?_cons_succ, List.set_cons_zero, List.set_cons_succ, List.length_cons, List.length_nil, Option.bind_some, Option.map_some, if_true, if_false, Bool.false_eq_true, decide_eq_true_eq, true_and, List.length_map, Bool.not_true, Bool.not_false, Bool.not_eq_true', decide_eq_false_iff_not, Bool.false_bne, eq_self, beq_self_eq_true, Bool.true_bne, ite_self, reduceCtorEq, a6_0, a6_1, ea]
  refine ⟨by decide, ?_⟩
  simp only [t__law_take_2_1, dSeq, dNext, dIf, dOrT, dAndT, dNotT, dBl, kBl, dTru, kTru, DL.truD, dOp, dCl, s1, s2, dCons, dNil, dVar, dMov, dC, kLenN, peek, lenW, noDict, lenD, sCmp, sOrd, sEq, kEq, sIn, sIsN, nonW, sInt, sAdd, sMul, sRows, rowD, flat, dsOf, seqW, dRet, dRetN, dDrop, dBrk, dCnt, dAsg, gN, gTp, gsCons, gsNil, DL.gSub, setW, useW, useWs, useD, nosto, nostos, fz, fzs, dCall, dCall0, argsD, argD, dLst, dTup, dIte, dAnd, dOr, dNot, dNeg, dBm, isTy, mApp, sIx, kItem, rowOf, dSl, kSl, dNo, dSo, kInt, kStr, kRepr, kListOf, kIsi, tyN, dFor, dRow, dRng1, dRng2, dComp, wipeE, dYes, dJoin, dJs, dFmt, kFmt, pkS, kI2, kAbs, okq, eqv, okqs, eqvs, kCat, dsOf_map, nostos_d, fzs_d, dChn, dRaise0, dRaise, dTryAs, dCallH, kIsX, dXf, kXf, dChN, dChT, dLinks, dBits, dIxMv, subX_ce, isExn, suE, dropX, dropO, keepX, nox, noxs, List.map_cons, List.map_nil, List.any_cons, List.any_nil, List.getElem?_cons_zero, List.getElem?_cons_succ, List.set_cons_zero, List.set_cons_succ, List.length_cons, List.length_nil, Option.bind_some, Option.map_some, if_true, if_false, Bool.false_eq_true, decide_eq_true_eq, true_and, List.length_map, Bool.not_true, Bool.not_false, Bool.not_eq_true', decide_eq_false_iff_not, Bool.false_bne, eq_self, beq_self_eq_true, Bool.true_bne, ite_self, reduceCtorEq, a6_1, i6_1]
  simp only [t__law_take_2_2, dSeq, dNext, dIf, dOrT, dAndT, dNotT, dBl, kBl, dTru, kTru, DL.truD, dOp, dCl, s1, s2, dCons, dNil, dVar, dMov, dC, kLenN, peek, lenW, noDict, lenD, sCmp, sOrd, sEq, kEq, sIn, sIsN, nonW, sInt, sAdd, sMul, sRows, rowD, flat, dsOf, seqW, dRet, dRetN, dDrop, dBrk, dCnt, dAsg, gN, gTp, gsCons, gsNil, DL.gSub, setW, useW, useWs, useD, nosto, nostos, fz, fzs, dCall, dCall0, argsD, argD, dLst, dTup, dIte, dAnd, dOr, dNot, dNeg, dBm, isTy, mApp, sIx, kItem, rowOf, dSl, kSl, dNo, dSo, kInt, kStr, kRepr, kListOf, kIsi, tyN, dFor, dRow, dRng1, dRng2, dComp, wipeE, dYes, dJoin, dJs, dFmt, kFmt, pkS, kI2, kAbs, okq, eqv, okqs, eqvs, kCat, dsOf_map, nostos_d, fzs_d, dChn, dRaise0, dRaise, dTryAs, dCallH, kIsX, dXf, kXf, dChN, dChT, dLinks, dBits, dIxMv, subX_ce, isExn, suE, dropX, dropO, keepX, nox, noxs, List.map_cons, List.map_nil, List.any_cons, List.any_nil, List.getElem?_cons_zero, List.getElem?_cons_succ, List.set_cons_zero, List.set_cons_succ, List.length_cons, List.length_nil, Option.bind_some, Option.map_some, if_true, if_false, Bool.false_eq_true, decide_eq_true_eq, true_and, List.length_map, Bool.not_true, Bool.not_false, Bool.not_eq_true', decide_eq_false_iff_not, Bool.false_bne, eq_self, beq_self_eq_true, Bool.true_bne, ite_self, reduceCtorEq, a6_4, i6_4, List.map_cons, List.map_nil, a2_1]
  refine ⟨mulR (by decide) (by decide), by decide, mulR (by decide) (by decide), by decide, ?_⟩
  have q0 := Int.emod_nonneg (r * 69621 + n % 2147483647 * 40014 + 12345) (b := 2147483647) (by decide)
  have q1 := Int.emod_lt_of_pos (r * 69621 + n % 2147483647 * 40014 + 12345) (b := 2147483647) (by decide)
  generalize (r * 69621 + n % 2147483647 * 40014 + 12345) % 2147483647 = r2 at q0 q1 ⊢
  simp only [t__law_take_2_3, dSeq, dNext, dIf, dOrT, dAndT, dNotT, dBl, kBl, dTru, kTru, DL.truD, dOp, dCl, s1, s2, dCons, dNil, dVar, dMov, dC, kLenN, peek, lenW, noDict, lenD, sCmp, sOrd, sEq, kEq, sIn, sIsN, nonW, sInt, sAdd, sMul, sRows, rowD, flat, dsOf, seqW, dRet, dRetN, dDrop, dBrk, dCnt, dAsg, gN, gTp, gsCons, gsNil, DL.gSub, setW, useW, useWs, useD, nosto, nostos, fz, fzs, dCall, dCall0, argsD, argD, dLst, dTup, dIte, dAnd, dOr, dNot, dNeg, dBm, isTy, mApp, sIx, kItem, rowOf, dSl, kSl, dNo, dSo, kInt, kStr, kRepr, kListOf, kIsi, tyN, dFor, dRow, dRng1, dRng2, dComp, wipeE, dYes, dJoin, dJs, dFmt, kFmt, pkS, kI2, kAbs, okq, eqv, okqs, eqvs, kCat, dsOf_map, nostos_d, fzs_d, dChn, dRaise0, dRaise, dTryAs, dCallH, kIsX, dXf, kXf, dChN, dChT, dLinks, dBits, dIxMv, subX_ce, isExn, suE, dropX, dropO, keepX, nox, noxs, List.map_cons, List.map_nil, List.any_cons, List.any_nil, List.getElem?_cons_zero, List.getElem?_cons_succ, List.set_cons_zero, List.set_cons_succ, List.length_cons, List.length_nil, Option.bind_some, Option.map_some, if_true, if_false, Bool.false_eq_true, decide_eq_true_eq, true_and, List.length_map, Bool.not_true, Bool.not_false, Bool.not_eq_true', decide_eq_false_iff_not, Bool.false_bne, eq_self, beq_self_eq_true, Bool.true_bne, ite_self, reduceCtorEq, List.map_cons, List.map_nil, a2_0, Bool.false_bne]
  split
  · simp only [t__law_take_3_0, dSeq, dNext, dIf, dOrT, dAndT, dNotT, dBl, kBl, dTru, kTru, DL.truD, dOp, dCl, s1, s2, dCons, dNil, dVar, dMov, dC, kLenN, peek, lenW, noDict, lenD, sCmp, sOrd, sEq, kEq, sIn, sIsN, nonW, sInt, sAdd, sMul, sRows, rowD, flat, dsOf, seqW, dRet, dRetN, dDrop, dBrk, dCnt, dAsg, gN, gTp, gsCons, gsNil, DL.gSub, setW, useW, useWs, useD, nosto, nostos, fz, fzs, dCall, dCall0, argsD, argD, dLst, dTup, dIte, dAnd, dOr, dNot, dNeg, dBm, isTy, mApp, sIx, kItem, rowOf, dSl, kSl, dNo, dSo, kInt, kStr, kRepr, kListOf, kIsi, tyN, dFor, dRow, dRng1, dRng2, dComp, wipeE, dYes, dJoin, dJs, dFmt, kFmt, pkS, kI2, kAbs, okq, eqv, okqs, eqvs, kCat, dsOf_map, nostos_d, fzs_d, dChn, dRaise0, dRaise, dTryAs, dCallH, kIsX, dXf, kXf, dChN, dChT, dLinks, dBits, dIxMv, subX_ce, isExn, suE, dropX, dropO, keepX, nox, noxs, List.map_cons, List.map_nil, List.any_cons, List.any_nil, List.getElem?_cons_zero, List.getElem?_cons_succ, List.set_cons_zero, List.set_cons_succ, List.length_cons, List.length_nil, Option.bind_some, Option.map_some, if_true, if_false, Bool.false_eq_true, decide_eq_true_eq, true_and, List.length_map, Bool.not_true, Bool.not_false, Bool.not_eq_true', decide_eq_false_iff_not, Bool.false_bne, eq_self, beq_self_eq_true, Bool.true_bne, ite_self, reduceCtorEq, List.map_cons, List.map_nil, a2_1, i6_2]
    exact tail _ _ _ _ _ _ _ hx (by omega) n0 q0 q1
  · simp only [t__law_take_4_0, dSeq, dNext, dIf, dOrT, dAndT, dNotT, dBl, kBl, dTru, kTru, DL.truD, dOp, dCl, s1, s2, dCons, dNil, dVar, dMov, dC, kLenN, peek, lenW, noDict, lenD, sCmp, sOrd, sEq, kEq, sIn, sIsN, nonW, sInt, sAdd, sMul, sRows, rowD, flat, dsOf, seqW, dRet, dRetN, dDrop, dBrk, dCnt, dAsg, gN, gTp, gsCons, gsNil, DL.gSub, setW, useW, useWs, useD, nosto, nostos, fz, fzs, dCall, dCall0, argsD, argD, dLst, dTup, dIte, dAnd, dOr, dNot, dNeg, dBm, isTy, mApp, sIx, kItem, rowOf, dSl, kSl, dNo, dSo, kInt, kStr, kRepr, kListOf, kIsi, tyN, dFor, dRow, dRng1, dRng2, dComp, wipeE, dYes, dJoin, dJs, dFmt, kFmt, pkS, kI2, kAbs, okq, eqv, okqs, eqvs, kCat, dsOf_map, nostos_d, fzs_d, dChn, dRaise0, dRaise, dTryAs, dCallH, kIsX, dXf, kXf, dChN, dChT, dLinks, dBits, dIxMv, subX_ce, isExn, suE, dropX, dropO, keepX, nox, noxs, List.map_cons, List.map_nil, List.any_cons, List.any_nil, List.getElem?_cons_zero, List.getElem?_cons_succ, List.set_cons_zero, List.set_cons_succ, List.length_cons, List.length_nil, Option.bind_some, Option.map_some, if_true, if_false, Bool.false_eq_true, decide_eq_true_eq, true_and, List.length_map, Bool.not_true, Bool.not_false, Bool.not_eq_true', decide_eq_false_iff_not, Bool.false_bne, eq_self, beq_self_eq_true, Bool.true_bne, ite_self, reduceCtorEq, i6_3]
    exact tail _ _ _ _ _ _ _ hx (by omega) g0 q0 q1

end Lk25

open PySem DL
namespace Lk25
theorem p__law_whole : ∀ ws k kx, ws.length = 1 → S__law_whole ws k kx → t__law_whole (retE k) (fun x _ => kx x) (startE N__law_whole ws) := by
  rintro ws k kx - ⟨i, rfl, hk⟩
  rw [se__law_whole]
  simp only [t__law_whole, t__law_whole_0_0, dSeq, dNext, dIf, dOrT, dAndT, dNotT, dBl, kBl, dTru, kTru, DL.truD, dOp, dCl, s1, s2, dCons, dNil, dVar, dMov, dC, kLenN, peek, lenW, noDict, lenD, sCmp, sOrd, sEq, kEq, sIn, sIsN, nonW, sInt, sAdd, sMul, sRows, rowD, flat, dsOf, seqW, dRet, dRetN, dDrop, dBrk, dCnt, dAsg, gN, gTp, gsCons, gsNil, DL.gSub, setW, useW, useWs, useD, nosto, nostos, fz, fzs, dCall, dCall0, argsD, argD, dLst, dTup, dIte, dAnd, dOr, dNot, dNeg, dBm, isTy, mApp, sIx, kItem, rowOf, dSl, kSl, dNo, dSo, kInt, kStr, kRepr, kListOf, kIsi, tyN, dFor, dRow, dRng1, dRng2, dComp, wipeE, dYes, dJoin, dJs, dFmt, kFmt, pkS, kI2, kAbs, okq, eqv, okqs, eqvs, kCat, dsOf_map, nostos_d, fzs_d, dChn, dRaise0, dRaise, dTryAs, dCallH, kIsX, dXf, kXf, dChN, dChT, dLinks, dBits, dIxMv, subX_ce, isExn, suE, dropX, dropO, keepX, nox, noxs, List.map_cons, List.map_nil, List.any_cons, List.any_nil, List.getElem?_cons_zero, List.getElem?_cons_succ, List.set_cons_zero, List.set_cons_succ, List.length_cons, List.length_nil, Option.bind_some, Option.map_some, if_true, if_false, Bool.false_eq_true, decide_eq_true_eq, true_and, List.length_map, Bool.not_true, Bool.not_false, Bool.not_eq_true', decide_eq_false_iff_not, Bool.false_bne, eq_self, beq_self_eq_true, Bool.true_bne, ite_self, reduceCtorEq, kb_ll, kb_lt, kb_ld, kb_tl, kb_tt, kb_td, kb_nl, kb_nt, kb_nd, kb_nb, kb_ni, kb_ns, kb_bl, kb_bt, kb_bd, kb_bb, kb_bi, kb_bs, kb_il, kb_it, kb_id, kb_ib, kb_ii, kb_is, kb_sl, kb_st, kb_sd, kb_sb, kb_si, kb_ss, kb_tb, kb_ti, kb_ts, kb_lb, kb_li, kb_ls, retE]
  walk_at "crunch"
  exact ⟨_, rfl, hk⟩

end Lk25

open PySem DL
namespace Lk25
theorem p__law_parts : ∀ ws k kx, ws.length = 1 → S__law_parts ws k kx → t__law_parts (retE k) (fun x _ => kx x) (startE N__law_parts ws) := by
  rintro ws k kx - ⟨x, xs, rfl, hx, hk⟩
  rw [se__law_parts]
  cases x <;> first | (cases hx; done) | (cases hx; simp only [t__law_parts, t__law_parts_0_0, t__law_parts_0_1, dSeq, dNext, dIf, dOrT, dAndT, dNotT, dBl, kBl, dTru, kTru, DL.truD, dOp, dCl, s1, s2, dCons, dNil, dVar, dMov, dC, kLenN, peek, lenW, noDict, lenD, sCmp, sOrd, sEq, kEq, sIn, sIsN, nonW, sInt, sAdd, sMul, sRows, rowD, flat, dsOf, seqW, dRet, dRetN, dDrop, dBrk, dCnt, dAsg, gN, gTp, gsCons, gsNil, DL.gSub, setW, useW, useWs, useD, nosto, nostos, fz, fzs, dCall, dCall0, argsD, argD, dLst, dTup, dIte, dAnd, dOr, dNot, dNeg, dBm, isTy, mApp, sIx, kItem, rowOf, dSl, kSl, dNo, dSo, kInt, kStr, kRepr, kListOf, kIsi, tyN, dFor, dRow, dRng1, dRng2, dComp, wipeE, dYes, dJoin, dJs, dFmt, kFmt, pkS, kI2, kAbs, okq, eqv, okqs, eqvs, kCat, dsOf_map, nostos_d, fzs_d, dChn, dRaise0, dRaise, dTryAs, dCallH, kIsX, dXf, kXf, dChN, dChT, dLinks, dBits, dIxMv, subX_ce, isExn, suE, dropX, dropO, keepX, nox, noxs, List.map_cons, List.map_nil, List.any_cons, List.any_nil, List.getElem?_cons_zero, List.getElem?_cons_succ, List.set_cons_zero, List.set_cons_succ, List.length_cons, List.length_nil, Option.bind_some, Option.map_some, if_true, if_false, Bool.false_eq_true, decide_eq_true_eq, true_and, List.length_map, Bool.not_true, Bool.not_false, Bool.not_eq_true', decide_eq_false_iff_not, Bool.false_bne, eq_self, beq_self_eq_true, Bool.true_bne, ite_self, reduceCtorEq, kb_ll, kb_lt, kb_ld, kb_tl, kb_tt, kb_td, kb_nl, kb_nt, kb_nd, kb_nb, kb_ni, kb_ns, kb_bl, kb_bt, kb_bd, kb_bb, kb_bi, kb_bs, kb_il, kb_it, kb_id, kb_ib, kb_ii, kb_is, kb_sl, kb_st, kb_sd, kb_sb, kb_si, kb_ss, kb_tb, kb_ti, kb_ts, kb_lb, kb_li, kb_ls, retE]; walk_at "crunch"; exact ⟨_, rfl, hk⟩)

end Lk25

open PySem DL
namespace Lk25
theorem p__law_marking : ∀ ws k kx, ws.length = 1 → S__law_marking ws k kx → t__law_marking (retE k) (fun x _ => kx x) (startE N__law_marking ws) := by
  rintro ws k kx - ⟨x, rfl, hp, hk⟩
  rw [se__law_marking]
  cases x <;> first
    | (cases hp; done)
    | (simp only [t__law_marking, t__law_marking_0_6, t__law_marking_1_0, t__law_marking_0_5, t__law_marking_2_0, t__law_marking_0_4, t__law_marking_3_0, t__law_marking_0_3, t__law_marking_4_0, t__law_marking_0_2, t__law_marking_5_0, t__law_marking_0_1, t__law_marking_6_0, t__law_marking_0_0, dSeq, dNext, dIf, dOrT, dAndT, dNotT, dBl, kBl, dTru, kTru, DL.truD, dOp, dCl, s1, s2, dCons, dNil, dVar, dMov, dC, kLenN, peek, lenW, noDict, lenD, sCmp, sOrd, sEq, kEq, sIn, sIsN, nonW, sInt, sAdd, sMul, sRows, rowD, flat, dsOf, seqW, dRet, dRetN, dDrop, dBrk, dCnt, dAsg, gN, gTp, gsCons, gsNil, DL.gSub, setW, useW, useWs, useD, nosto, nostos, fz, fzs, dCall, dCall0, argsD, argD, dLst, dTup, dIte, dAnd, dOr, dNot, dNeg, dBm, isTy, mApp, sIx, kItem, rowOf, dSl, kSl, dNo, dSo, kInt, kStr, kRepr, kListOf, kIsi, tyN, dFor, dRow, dRng1, dRng2, dComp, wipeE, dYes, dJoin, dJs, dFmt, kFmt, pkS, kI2, kAbs, okq, eqv, okqs, eqvs, kCat, dsOf_map, nostos_d, fzs_d, dChn, dRaise0, dRaise, dTryAs, dCallH, kIsX, dXf, kXf, dChN, dChT, dLinks, dBits, dIxMv, subX_ce, isExn, suE, dropX, dropO, keepX, nox, noxs, List.map_cons, List.map_nil, List.any_cons, List.any_nil, List.getElem?_cons_zero, List.getElem?_cons_succ, List.set_cons_zero, List.set_cons_succ, List.length_cons, List.length_nil, Option.bind_some, Option.map_some, if_true, if_false, Bool.false_eq_true, decide_eq_true_eq, true_and, List.length_map, Bool.not_true, Bool.not_false, Bool.not_eq_true', decide_eq_false_iff_not, Bool.false_bne, eq_self, beq_self_eq_true, Bool.true_bne, ite_self, reduceCtorEq, retE, kb_ll, kb_lt, kb_ld, kb_tl, kb_tt, kb_td, kb_nl, kb_nt, kb_nd, kb_nb, kb_ni, kb_ns, kb_bl, kb_bt, kb_bd, kb_bb, kb_bi, kb_bs, kb_il, kb_it, kb_id, kb_ib, kb_ii, kb_is, kb_sl, kb_st, kb_sd, kb_sb, kb_si, kb_ss, kb_tb, kb_ti, kb_ts, kb_lb, kb_li, kb_ls, Bool.false_bne]
       walk_at "crunch"
       exact ⟨_, rfl, hk⟩)

end Lk25

open PySem DL
namespace Lk25
theorem p__law_classes : ∀ ws k kx, ws.length = 1 → S__law_classes ws k kx → t__law_classes (retE k) (fun x _ => kx x) (startE N__law_classes ws) := by
  rintro ws k kx - ⟨c, fs, rfl, hc, hk⟩
  rw [se__law_classes]
  suffices main : t__law_classes_0_1 (retE k) (fun x _ => kx x) [some (.exn c fs), some (.ol ((errNames.map (subX c)).map fun b => .d (.bl b))), none, none] by
    simp only [t__law_classes, t__law_classes_0_0, dSeq, dNext, dIf, dOrT, dAndT, dNotT, dBl, kBl, dTru, kTru, DL.truD, dOp, dCl, s1, s2, dCons, dNil, dVar, dMov, dC, kLenN, peek, lenW, noDict, lenD, sCmp, sOrd, sEq, kEq, sIn, sIsN, nonW, sInt, sAdd, sMul, sRows, rowD, flat, dsOf, seqW, dRet, dRetN, dDrop, dBrk, dCnt, dAsg, gN, gTp, gsCons, gsNil, DL.gSub, setW, useW, useWs, useD, nosto, nostos, fz, fzs, dCall, dCall0, argsD, argD, dLst, dTup, dIte, dAnd, dOr, dNot, dNeg, dBm, isTy, mApp, sIx, kItem, rowOf, dSl, kSl, dNo, dSo, kInt, kStr, kRepr, kListOf, kIsi, tyN, dFor, dRow, dRng1, dRng2, dComp, wipeE, dYes, dJoin, dJs, dFmt, kFmt, pkS, kI2, kAbs, okq, eqv, okqs, eqvs, kCat, dsOf_map, nostos_d, fzs_d, dChn, dRaise0, dRaise, dTryAs, dCallH, kIsX, dXf, kXf, dChN, dChT, dLinks, dBits, dIxMv, subX_ce, isExn, suE, dropX, dropO, keepX, nox, noxs, List.map_cons, List.map_nil, List.any_cons, List.any_nil, List.getElem?_cons_zero, List.getElem?_cons_succ, List.set_cons_zero, List.set_cons_succ, List.length_cons, List.length_nil, Option.bind_some, Option.map_some, if_true, if_false, Bool.false_eq_true, decide_eq_true_eq, true_and, List.length_map, Bool.not_true, Bool.not_false, Bool.not_eq_true', decide_eq_false_iff_not, Bool.false_bne, eq_self, beq_self_eq_true, Bool.true_bne, ite_self, reduceCtorEq, useWs]
    walk_at "crunch"
    exact main
  simp only [t__law_classes_0_1, t__law_classes_0_2, t__law_classes_0_3, dSeq, dNext, dIf, dOrT, dAndT, dNotT, dBl, kBl, dTru, kTru, DL.truD, dOp, dCl, s1, s2, dCons, dNil, dVar, dMov, dC, kLenN, peek, lenW, noDict, lenD, sCmp, sOrd, sEq, kEq, sIn, sIsN, nonW, sInt, sAdd, sMul, sRows, rowD, flat, dsOf, seqW, dRet, dRetN, dDrop, dBrk, dCnt, dAsg, gN, gTp, gsCons, gsNil, DL.gSub, setW, useW, useWs, useD, nosto, nostos, fz, fzs, dCall, dCall0, argsD, argD, dLst, dTup, dIte, dAnd, dOr, dNot, dNeg, dBm, isTy, mApp, sIx, kItem, rowOf, dSl, kSl, dNo, dSo, kInt, kStr, kRepr, kListOf, kIsi, tyN, dFor, dRow, dRng1, dRng2, dComp, wipeE, dYes, dJoin, dJs, dFmt, kFmt, pkS, kI2, kAbs, okq, eqv, okqs, eqvs, kCat, dsOf_map, nostos_d, fzs_d, dChn, dRaise0, dRaise, dTryAs, dCallH, kIsX, dXf, kXf, dChN, dChT, dLinks, dBits, dIxMv, subX_ce, isExn, suE, dropX, dropO, keepX, nox, noxs, List.map_cons, List.map_nil, List.any_cons, List.any_nil, List.getElem?_cons_zero, List.getElem?_cons_succ, List.set_cons_zero, List.set_cons_succ, List.length_cons, List.length_nil, Option.bind_some, Option.map_some, if_true, if_false, Bool.false_eq_true, decide_eq_true_eq, true_and, List.length_map, Bool.not_true, Bool.not_false, Bool.not_eq_true', decide_eq_false_iff_not, Bool.false_bne, eq_self, beq_self_eq_true, Bool.true_bne, ite_self, reduceCtorEq, mSplit, useWs]
  have hf := zip_filter (subX c) codesOf errNames
  rw [filter_names c hc] at hf
  have lf : (errNames.map (subX c)).length = 29 := by rw [List.length_map]; rfl
  have ln : (errNames.map codesOf).length = 29 := by rw [List.length_map]; rfl
  have main : ∀ l : List W, l = (errNames.map codesOf).map (fun s => W.d (.str s)) → t__law_classes_0_4 (retE k) (fun x _ => kx x) [some (.exn c fs), some (.ol ((errNames.map (subX c)).map fun b => .d (.bl b))), some (.ol l), none] := by
    rintro l rfl
    generalize errNames.map (subX c) = fl at hf lf ⊢
    generalize errNames.map codesOf = nm at hf ln ⊢
    simp only [t__law_classes_0_4, dSeq, dNext, dIf, dOrT, dAndT, dNotT, dBl, kBl, dTru, kTru, DL.truD, dOp, dCl, s1, s2, dCons, dNil, dVar, dMov, dC, kLenN, peek, lenW, noDict, lenD, sCmp, sOrd, sEq, kEq, sIn, sIsN, nonW, sInt, sAdd, sMul, sRows, rowD, flat, dsOf, seqW, dRet, dRetN, dDrop, dBrk, dCnt, dAsg, gN, gTp, gsCons, gsNil, DL.gSub, setW, useW, useWs, useD, nosto, nostos, fz, fzs, dCall, dCall0, argsD, argD, dLst, dTup, dIte, dAnd, dOr, dNot, dNeg, dBm, isTy, mApp, sIx, kItem, rowOf, dSl, kSl, dNo, dSo, kInt, kStr, kRepr, kListOf, kIsi, tyN, dFor, dRow, dRng1, dRng2, dComp, wipeE, dYes, dJoin, dJs, dFmt, kFmt, pkS, kI2, kAbs, okq, eqv, okqs, eqvs, kCat, dsOf_map, nostos_d, fzs_d, dChn, dRaise0, dRaise, dTryAs, dCallH, kIsX, dXf, kXf, dChN, dChT, dLinks, dBits, dIxMv, subX_ce, isExn, suE, dropX, dropO, keepX, nox, noxs, List.map_cons, List.map_nil, List.any_cons, List.any_nil, List.getElem?_cons_zero, List.getElem?_cons_succ, List.set_cons_zero, List.set_cons_succ, List.length_cons, List.length_nil, Option.bind_some, Option.map_some, if_true, if_false, Bool.false_eq_true, decide_eq_true_eq, true_and, List.length_map, Bool.not_true, Bool.not_false, Bool.not_eq_true', decide_eq_false_iff_not, Bool.false_bne, eq_self, beq_self_eq_true, Bool.true_bne, ite_self, reduceCtorEq]
    refine ⟨⟨by decide, by decide⟩, ?_⟩
    refine compL_pick fl nm (by rw [lf, ln]) (fun j b s e1 e2 acc K ha hK => ?_) 29 0 [] _ (by rw [lf]) (szl (by decide)) ?_
    · have a1 : L2.atI (fl.map fun b => W.d (.bl b)) (j : Int) = some (W.d (.bl b)) := L2.atI_nat (by rw [List.getElem?_map, e1]; rfl)
      have a2 : L2.atI (nm.map fun s => W.d (.str s)) (j : Int) = some (W.d (.str s)) := L2.atI_nat (by rw [List.getElem?_map, e2]; rfl)
      simp only [compStep, dSeq, dNext, dIf, dOrT, dAndT, dNotT, dBl, kBl, dTru, kTru, DL.truD, dOp, dCl, s1, s2, dCons, dNil, dVar, dMov, dC, kLenN, peek, lenW, noDict, lenD, sCmp, sOrd, sEq, kEq, sIn, sIsN, nonW, sInt, sAdd, sMul, sRows, rowD, flat, dsOf, seqW, dRet, dRetN, dDrop, dBrk, dCnt, dAsg, gN, gTp, gsCons, gsNil, DL.gSub, setW, useW, useWs, useD, nosto, nostos, fz, fzs, dCall, dCall0, argsD, argD, dLst, dTup, dIte, dAnd, dOr, dNot, dNeg, dBm, isTy, mApp, sIx, kItem, rowOf, dSl, kSl, dNo, dSo, kInt, kStr, kRepr, kListOf, kIsi, tyN, dFor, dRow, dRng1, dRng2, dComp, wipeE, dYes, dJoin, dJs, dFmt, kFmt, pkS, kI2, kAbs, okq, eqv, okqs, eqvs, kCat, dsOf_map, nostos_d, fzs_d, dChn, dRaise0, dRaise, dTryAs, dCallH, kIsX, dXf, kXf, dChN, dChT, dLinks, dBits, dIxMv, subX_ce, isExn, suE, dropX, dropO, keepX, nox, noxs, List.map_cons, List.map_nil, List.any_cons, List.any_nil, List.getElem?_cons_zero, List.getElem?_cons_succ, List.set_cons_zero, List.set_cons_succ, List.length_cons, List.length_nil, Option.bind_some, Option.map_some, if_true, if_false, Bool.false_eq_true, decide_eq_true_eq, true_and, List.length_map, Bool.not_true, Bool.not_false, Bool.not_eq_true', decide_eq_false_iff_not, Bool.false_bne, eq_self, beq_self_eq_true, Bool.true_bne, ite_self, reduceCtorEq, a1, a2]
      refine ⟨by decide, Nat.zero_le _, ?_⟩
      cases b with
      | true => exact ⟨ha, hK⟩
      | false => exact hK
    · rw [List.drop_zero, List.nil_append, hf]
      simp only [dSeq, dNext, dIf, dOrT, dAndT, dNotT, dBl, kBl, dTru, kTru, DL.truD, dOp, dCl, s1, s2, dCons, dNil, dVar, dMov, dC, kLenN, peek, lenW, noDict, lenD, sCmp, sOrd, sEq, kEq, sIn, sIsN, nonW, sInt, sAdd, sMul, sRows, rowD, flat, dsOf, seqW, dRet, dRetN, dDrop, dBrk, dCnt, dAsg, gN, gTp, gsCons, gsNil, DL.gSub, setW, useW, useWs, useD, nosto, nostos, fz, fzs, dCall, dCall0, argsD, argD, dLst, dTup, dIte, dAnd, dOr, dNot, dNeg, dBm, isTy, mApp, sIx, kItem, rowOf, dSl, kSl, dNo, dSo, kInt, kStr, kRepr, kListOf, kIsi, tyN, dFor, dRow, dRng1, dRng2, dComp, wipeE, dYes, dJoin, dJs, dFmt, kFmt, pkS, kI2, kAbs, okq, eqv, okqs, eqvs, kCat, dsOf_map, nostos_d, fzs_d, dChn, dRaise0, dRaise, dTryAs, dCallH, kIsX, dXf, kXf, dChN, dChT, dLinks, dBits, dIxMv, subX_ce, isExn, suE, dropX, dropO, keepX, nox, noxs, List.map_cons, List.map_nil, List.any_cons, List.any_nil, List.getElem?_cons_zero, List.getElem?_cons_succ, List.set_cons_zero, List.set_cons_succ, List.length_cons, List.length_nil, Option.bind_some, Option.map_some, if_true, if_false, Bool.false_eq_true, decide_eq_true_eq, true_and, List.length_map, Bool.not_true, Bool.not_false, Bool.not_eq_true', decide_eq_false_iff_not, Bool.false_bne, eq_self, beq_self_eq_true, Bool.true_bne, ite_self, reduceCtorEq, retE]
      exact ⟨_, rfl, hk⟩
  refine ⟨by decide +kernel, by decide +kernel, by decide, by decide, by decide, by decide +kernel, ?_⟩
  rw [split_map (l := errNames.map codesOf) (by decide +kernel)]
  refine ⟨by decide, main _ rfl⟩

end Lk25

open PySem DL
namespace Lk25
theorem p__law_due : ∀ ws k kx, ws.length = 2 → S__law_due ws k kx → t__law_due (retE k) (fun x _ => kx x) (startE N__law_due ws) := by
  rintro ws k kx - ⟨s, rfl, hk⟩
  rw [se__law_due]
  simp only [t__law_due, t__law_due_0_0, dSeq, dNext, dIf, dOrT, dAndT, dNotT, dBl, kBl, dTru, kTru, DL.truD, dOp, dCl, s1, s2, dCons, dNil, dVar, dMov, dC, kLenN, peek, lenW, noDict, lenD, sCmp, sOrd, sEq, kEq, sIn, sIsN, nonW, sInt, sAdd, sMul, sRows, rowD, flat, dsOf, seqW, dRet, dRetN, dDrop, dBrk, dCnt, dAsg, gN, gTp, gsCons, gsNil, DL.gSub, setW, useW, useWs, useD, nosto, nostos, fz, fzs, dCall, dCall0, argsD, argD, dLst, dTup, dIte, dAnd, dOr, dNot, dNeg, dBm, isTy, mApp, sIx, kItem, rowOf, dSl, kSl, dNo, dSo, kInt, kStr, kRepr, kListOf, kIsi, tyN, dFor, dRow, dRng1, dRng2, dComp, wipeE, dYes, dJoin, dJs, dFmt, kFmt, pkS, kI2, kAbs, okq, eqv, okqs, eqvs, kCat, dsOf_map, nostos_d, fzs_d, dChn, dRaise0, dRaise, dTryAs, dCallH, kIsX, dXf, kXf, dChN, dChT, dLinks, dBits, dIxMv, subX_ce, isExn, suE, dropX, dropO, keepX, nox, noxs, List.map_cons, List.map_nil, List.any_cons, List.any_nil, List.getElem?_cons_zero, List.getElem?_cons_succ, List.set_cons_zero, List.set_cons_succ, List.length_cons, List.length_nil, Option.bind_some, Option.map_some, if_true, if_false, Bool.false_eq_true, decide_eq_true_eq, true_and, List.length_map, Bool.not_true, Bool.not_false, Bool.not_eq_true', decide_eq_false_iff_not, Bool.false_bne, eq_self, beq_self_eq_true, Bool.true_bne, ite_self, reduceCtorEq, useWs, retE]
  walk_at "crunch"
  exact ⟨_, rfl, hk⟩

end Lk25

open PySem DL
namespace Lk25
theorem p__law_between : ∀ ws k kx, ws.length = 3 → S__law_between ws k kx → t__law_between (retE k) (fun x _ => kx x) (startE N__law_between ws) := by
  rintro ws k kx - ⟨lo, hi, rfl, hle, hb, hk⟩
  rw [se__law_between]
  simp only [t__law_between, t__law_between_0_0, dSeq, dNext, dIf, dOrT, dAndT, dNotT, dBl, kBl, dTru, kTru, DL.truD, dOp, dCl, s1, s2, dCons, dNil, dVar, dMov, dC, kLenN, peek, lenW, noDict, lenD, sCmp, sOrd, sEq, kEq, sIn, sIsN, nonW, sInt, sAdd, sMul, sRows, rowD, flat, dsOf, seqW, dRet, dRetN, dDrop, dBrk, dCnt, dAsg, gN, gTp, gsCons, gsNil, DL.gSub, setW, useW, useWs, useD, nosto, nostos, fz, fzs, dCall, dCall0, argsD, argD, dLst, dTup, dIte, dAnd, dOr, dNot, dNeg, dBm, isTy, mApp, sIx, kItem, rowOf, dSl, kSl, dNo, dSo, kInt, kStr, kRepr, kListOf, kIsi, tyN, dFor, dRow, dRng1, dRng2, dComp, wipeE, dYes, dJoin, dJs, dFmt, kFmt, pkS, kI2, kAbs, okq, eqv, okqs, eqvs, kCat, dsOf_map, nostos_d, fzs_d, dChn, dRaise0, dRaise, dTryAs, dCallH, kIsX, dXf, kXf, dChN, dChT, dLinks, dBits, dIxMv, subX_ce, isExn, suE, dropX, dropO, keepX, nox, noxs, List.map_cons, List.map_nil, List.any_cons, List.any_nil, List.getElem?_cons_zero, List.getElem?_cons_succ, List.set_cons_zero, List.set_cons_succ, List.length_cons, List.length_nil, Option.bind_some, Option.map_some, if_true, if_false, Bool.false_eq_true, decide_eq_true_eq, true_and, List.length_map, Bool.not_true, Bool.not_false, Bool.not_eq_true', decide_eq_false_iff_not, Bool.false_bne, eq_self, beq_self_eq_true, Bool.true_bne, ite_self, reduceCtorEq]
  split
  · simp only [t__law_between_4_0, dSeq, dNext, dIf, dOrT, dAndT, dNotT, dBl, kBl, dTru, kTru, DL.truD, dOp, dCl, s1, s2, dCons, dNil, dVar, dMov, dC, kLenN, peek, lenW, noDict, lenD, sCmp, sOrd, sEq, kEq, sIn, sIsN, nonW, sInt, sAdd, sMul, sRows, rowD, flat, dsOf, seqW, dRet, dRetN, dDrop, dBrk, dCnt, dAsg, gN, gTp, gsCons, gsNil, DL.gSub, setW, useW, useWs, useD, nosto, nostos, fz, fzs, dCall, dCall0, argsD, argD, dLst, dTup, dIte, dAnd, dOr, dNot, dNeg, dBm, isTy, mApp, sIx, kItem, rowOf, dSl, kSl, dNo, dSo, kInt, kStr, kRepr, kListOf, kIsi, tyN, dFor, dRow, dRng1, dRng2, dComp, wipeE, dYes, dJoin, dJs, dFmt, kFmt, pkS, kI2, kAbs, okq, eqv, okqs, eqvs, kCat, dsOf_map, nostos_d, fzs_d, dChn, dRaise0, dRaise, dTryAs, dCallH, kIsX, dXf, kXf, dChN, dChT, dLinks, dBits, dIxMv, subX_ce, isExn, suE, dropX, dropO, keepX, nox, noxs, List.map_cons, List.map_nil, List.any_cons, List.any_nil, List.getElem?_cons_zero, List.getElem?_cons_succ, List.set_cons_zero, List.set_cons_succ, List.length_cons, List.length_nil, Option.bind_some, Option.map_some, if_true, if_false, Bool.false_eq_true, decide_eq_true_eq, true_and, List.length_map, Bool.not_true, Bool.not_false, Bool.not_eq_true', decide_eq_false_iff_not, Bool.false_bne, eq_self, beq_self_eq_true, Bool.true_bne, ite_self, reduceCtorEq, retE]
    exact ⟨_, rfl, hk _ (by omega) (by omega)⟩
  rename_i h1
  simp only [t__law_between_0_1, dSeq, dNext, dIf, dOrT, dAndT, dNotT, dBl, kBl, dTru, kTru, DL.truD, dOp, dCl, s1, s2, dCons, dNil, dVar, dMov, dC, kLenN, peek, lenW, noDict, lenD, sCmp, sOrd, sEq, kEq, sIn, sIsN, nonW, sInt, sAdd, sMul, sRows, rowD, flat, dsOf, seqW, dRet, dRetN, dDrop, dBrk, dCnt, dAsg, gN, gTp, gsCons, gsNil, DL.gSub, setW, useW, useWs, useD, nosto, nostos, fz, fzs, dCall, dCall0, argsD, argD, dLst, dTup, dIte, dAnd, dOr, dNot, dNeg, dBm, isTy, mApp, sIx, kItem, rowOf, dSl, kSl, dNo, dSo, kInt, kStr, kRepr, kListOf, kIsi, tyN, dFor, dRow, dRng1, dRng2, dComp, wipeE, dYes, dJoin, dJs, dFmt, kFmt, pkS, kI2, kAbs, okq, eqv, okqs, eqvs, kCat, dsOf_map, nostos_d, fzs_d, dChn, dRaise0, dRaise, dTryAs, dCallH, kIsX, dXf, kXf, dChN, dChT, dLinks, dBits, dIxMv, subX_ce, isExn, suE, dropX, dropO, keepX, nox, noxs, List.map_cons, List.map_nil, List.any_cons, List.any_nil, List.getElem?_cons_zero, List.getElem?_cons_succ, List.set_cons_zero, List.set_cons_succ, List.length_cons, List.length_nil, Option.bind_some, Option.map_some, if_true, if_false, Bool.false_eq_true, decide_eq_true_eq, true_and, List.length_map, Bool.not_true, Bool.not_false, Bool.not_eq_true', decide_eq_false_iff_not, Bool.false_bne, eq_self, beq_self_eq_true, Bool.true_bne, ite_self, reduceCtorEq, S__law_take, S_take]
  refine ⟨6, rfl, by decide, by decide, fun i i0 i1 => ?_⟩
  try simp only [dSeq, dNext, dIf, dOrT, dAndT, dNotT, dBl, kBl, dTru, kTru, DL.truD, dOp, dCl, s1, s2, dCons, dNil, dVar, dMov, dC, kLenN, peek, lenW, noDict, lenD, sCmp, sOrd, sEq, kEq, sIn, sIsN, nonW, sInt, sAdd, sMul, sRows, rowD, flat, dsOf, seqW, dRet, dRetN, dDrop, dBrk, dCnt, dAsg, gN, gTp, gsCons, gsNil, DL.gSub, setW, useW, useWs, useD, nosto, nostos, fz, fzs, dCall, dCall0, argsD, argD, dLst, dTup, dIte, dAnd, dOr, dNot, dNeg, dBm, isTy, mApp, sIx, kItem, rowOf, dSl, kSl, dNo, dSo, kInt, kStr, kRepr, kListOf, kIsi, tyN, dFor, dRow, dRng1, dRng2, dComp, wipeE, dYes, dJoin, dJs, dFmt, kFmt, pkS, kI2, kAbs, okq, eqv, okqs, eqvs, kCat, dsOf_map, nostos_d, fzs_d, dChn, dRaise0, dRaise, dTryAs, dCallH, kIsX, dXf, kXf, dChN, dChT, dLinks, dBits, dIxMv, subX_ce, isExn, suE, dropX, dropO, keepX, nox, noxs, List.map_cons, List.map_nil, List.any_cons, List.any_nil, List.getElem?_cons_zero, List.getElem?_cons_succ, List.set_cons_zero, List.set_cons_succ, List.length_cons, List.length_nil, Option.bind_some, Option.map_some, if_true, if_false, Bool.false_eq_true, decide_eq_true_eq, true_and, List.length_map, Bool.not_true, Bool.not_false, Bool.not_eq_true', decide_eq_false_iff_not, Bool.false_bne, eq_self, beq_self_eq_true, Bool.true_bne, ite_self, reduceCtorEq, clear, flatL]
  refine ⟨by decide, ?_⟩
  simp only [t__law_between_0_2, dSeq, dNext, dIf, dOrT, dAndT, dNotT, dBl, kBl, dTru, kTru, DL.truD, dOp, dCl, s1, s2, dCons, dNil, dVar, dMov, dC, kLenN, peek, lenW, noDict, lenD, sCmp, sOrd, sEq, kEq, sIn, sIsN, nonW, sInt, sAdd, sMul, sRows, rowD, flat, dsOf, seqW, dRet, dRetN, dDrop, dBrk, dCnt, dAsg, gN, gTp, gsCons, gsNil, DL.gSub, setW, useW, useWs, useD, nosto, nostos, fz, fzs, dCall, dCall0, argsD, argD, dLst, dTup, dIte, dAnd, dOr, dNot, dNeg, dBm, isTy, mApp, sIx, kItem, rowOf, dSl, kSl, dNo, dSo, kInt, kStr, kRepr, kListOf, kIsi, tyN, dFor, dRow, dRng1, dRng2, dComp, wipeE, dYes, dJoin, dJs, dFmt, kFmt, pkS, kI2, kAbs, okq, eqv, okqs, eqvs, kCat, dsOf_map, nostos_d, fzs_d, dChn, dRaise0, dRaise, dTryAs, dCallH, kIsX, dXf, kXf, dChN, dChT, dLinks, dBits, dIxMv, subX_ce, isExn, suE, dropX, dropO, keepX, nox, noxs, List.map_cons, List.map_nil, List.any_cons, List.any_nil, List.getElem?_cons_zero, List.getElem?_cons_succ, List.set_cons_zero, List.set_cons_succ, List.length_cons, List.length_nil, Option.bind_some, Option.map_some, if_true, if_false, Bool.false_eq_true, decide_eq_true_eq, true_and, List.length_map, Bool.not_true, Bool.not_false, Bool.not_eq_true', decide_eq_false_iff_not, Bool.false_bne, eq_self, beq_self_eq_true, Bool.true_bne, ite_self, reduceCtorEq, Bool.false_bne]
  split
  · simp only [t__law_between_3_0, dSeq, dNext, dIf, dOrT, dAndT, dNotT, dBl, kBl, dTru, kTru, DL.truD, dOp, dCl, s1, s2, dCons, dNil, dVar, dMov, dC, kLenN, peek, lenW, noDict, lenD, sCmp, sOrd, sEq, kEq, sIn, sIsN, nonW, sInt, sAdd, sMul, sRows, rowD, flat, dsOf, seqW, dRet, dRetN, dDrop, dBrk, dCnt, dAsg, gN, gTp, gsCons, gsNil, DL.gSub, setW, useW, useWs, useD, nosto, nostos, fz, fzs, dCall, dCall0, argsD, argD, dLst, dTup, dIte, dAnd, dOr, dNot, dNeg, dBm, isTy, mApp, sIx, kItem, rowOf, dSl, kSl, dNo, dSo, kInt, kStr, kRepr, kListOf, kIsi, tyN, dFor, dRow, dRng1, dRng2, dComp, wipeE, dYes, dJoin, dJs, dFmt, kFmt, pkS, kI2, kAbs, okq, eqv, okqs, eqvs, kCat, dsOf_map, nostos_d, fzs_d, dChn, dRaise0, dRaise, dTryAs, dCallH, kIsX, dXf, kXf, dChN, dChT, dLinks, dBits, dIxMv, subX_ce, isExn, suE, dropX, dropO, keepX, nox, noxs, List.map_cons, List.map_nil, List.any_cons, List.any_nil, List.getElem?_cons_zero, List.getElem?_cons_succ, List.set_cons_zero, List.set_cons_succ, List.length_cons, List.length_nil, Option.bind_some, Option.map_some, if_true, if_false, Bool.false_eq_true, decide_eq_true_eq, true_and, List.length_map, Bool.not_true, Bool.not_false, Bool.not_eq_true', decide_eq_false_iff_not, Bool.false_bne, eq_self, beq_self_eq_true, Bool.true_bne, ite_self, reduceCtorEq, retE]
    exact ⟨_, rfl, hk _ (by omega) (by omega)⟩
  simp only [t__law_between_0_3, dSeq, dNext, dIf, dOrT, dAndT, dNotT, dBl, kBl, dTru, kTru, DL.truD, dOp, dCl, s1, s2, dCons, dNil, dVar, dMov, dC, kLenN, peek, lenW, noDict, lenD, sCmp, sOrd, sEq, kEq, sIn, sIsN, nonW, sInt, sAdd, sMul, sRows, rowD, flat, dsOf, seqW, dRet, dRetN, dDrop, dBrk, dCnt, dAsg, gN, gTp, gsCons, gsNil, DL.gSub, setW, useW, useWs, useD, nosto, nostos, fz, fzs, dCall, dCall0, argsD, argD, dLst, dTup, dIte, dAnd, dOr, dNot, dNeg, dBm, isTy, mApp, sIx, kItem, rowOf, dSl, kSl, dNo, dSo, kInt, kStr, kRepr, kListOf, kIsi, tyN, dFor, dRow, dRng1, dRng2, dComp, wipeE, dYes, dJoin, dJs, dFmt, kFmt, pkS, kI2, kAbs, okq, eqv, okqs, eqvs, kCat, dsOf_map, nostos_d, fzs_d, dChn, dRaise0, dRaise, dTryAs, dCallH, kIsX, dXf, kXf, dChN, dChT, dLinks, dBits, dIxMv, subX_ce, isExn, suE, dropX, dropO, keepX, nox, noxs, List.map_cons, List.map_nil, List.any_cons, List.any_nil, List.getElem?_cons_zero, List.getElem?_cons_succ, List.set_cons_zero, List.set_cons_succ, List.length_cons, List.length_nil, Option.bind_some, Option.map_some, if_true, if_false, Bool.false_eq_true, decide_eq_true_eq, true_and, List.length_map, Bool.not_true, Bool.not_false, Bool.not_eq_true', decide_eq_false_iff_not, Bool.false_bne, eq_self, beq_self_eq_true, Bool.true_bne, ite_self, reduceCtorEq, Bool.false_bne]
  split
  · simp only [t__law_between_2_0, dSeq, dNext, dIf, dOrT, dAndT, dNotT, dBl, kBl, dTru, kTru, DL.truD, dOp, dCl, s1, s2, dCons, dNil, dVar, dMov, dC, kLenN, peek, lenW, noDict, lenD, sCmp, sOrd, sEq, kEq, sIn, sIsN, nonW, sInt, sAdd, sMul, sRows, rowD, flat, dsOf, seqW, dRet, dRetN, dDrop, dBrk, dCnt, dAsg, gN, gTp, gsCons, gsNil, DL.gSub, setW, useW, useWs, useD, nosto, nostos, fz, fzs, dCall, dCall0, argsD, argD, dLst, dTup, dIte, dAnd, dOr, dNot, dNeg, dBm, isTy, mApp, sIx, kItem, rowOf, dSl, kSl, dNo, dSo, kInt, kStr, kRepr, kListOf, kIsi, tyN, dFor, dRow, dRng1, dRng2, dComp, wipeE, dYes, dJoin, dJs, dFmt, kFmt, pkS, kI2, kAbs, okq, eqv, okqs, eqvs, kCat, dsOf_map, nostos_d, fzs_d, dChn, dRaise0, dRaise, dTryAs, dCallH, kIsX, dXf, kXf, dChN, dChT, dLinks, dBits, dIxMv, subX_ce, isExn, suE, dropX, dropO, keepX, nox, noxs, List.map_cons, List.map_nil, List.any_cons, List.any_nil, List.getElem?_cons_zero, List.getElem?_cons_succ, List.set_cons_zero, List.set_cons_succ, List.length_cons, List.length_nil, Option.bind_some, Option.map_some, if_true, if_false, Bool.false_eq_true, decide_eq_true_eq, true_and, List.length_map, Bool.not_true, Bool.not_false, Bool.not_eq_true', decide_eq_false_iff_not, Bool.false_bne, eq_self, beq_self_eq_true, Bool.true_bne, ite_self, reduceCtorEq, retE]
    exact ⟨_, rfl, hk _ (by omega) (by omega)⟩
  simp only [t__law_between_0_4, dSeq, dNext, dIf, dOrT, dAndT, dNotT, dBl, kBl, dTru, kTru, DL.truD, dOp, dCl, s1, s2, dCons, dNil, dVar, dMov, dC, kLenN, peek, lenW, noDict, lenD, sCmp, sOrd, sEq, kEq, sIn, sIsN, nonW, sInt, sAdd, sMul, sRows, rowD, flat, dsOf, seqW, dRet, dRetN, dDrop, dBrk, dCnt, dAsg, gN, gTp, gsCons, gsNil, DL.gSub, setW, useW, useWs, useD, nosto, nostos, fz, fzs, dCall, dCall0, argsD, argD, dLst, dTup, dIte, dAnd, dOr, dNot, dNeg, dBm, isTy, mApp, sIx, kItem, rowOf, dSl, kSl, dNo, dSo, kInt, kStr, kRepr, kListOf, kIsi, tyN, dFor, dRow, dRng1, dRng2, dComp, wipeE, dYes, dJoin, dJs, dFmt, kFmt, pkS, kI2, kAbs, okq, eqv, okqs, eqvs, kCat, dsOf_map, nostos_d, fzs_d, dChn, dRaise0, dRaise, dTryAs, dCallH, kIsX, dXf, kXf, dChN, dChT, dLinks, dBits, dIxMv, subX_ce, isExn, suE, dropX, dropO, keepX, nox, noxs, List.map_cons, List.map_nil, List.any_cons, List.any_nil, List.getElem?_cons_zero, List.getElem?_cons_succ, List.set_cons_zero, List.set_cons_succ, List.length_cons, List.length_nil, Option.bind_some, Option.map_some, if_true, if_false, Bool.false_eq_true, decide_eq_true_eq, true_and, List.length_map, Bool.not_true, Bool.not_false, Bool.not_eq_true', decide_eq_false_iff_not, Bool.false_bne, eq_self, beq_self_eq_true, Bool.true_bne, ite_self, reduceCtorEq, Bool.false_bne]
  split
  · simp only [t__law_between_1_0, dSeq, dNext, dIf, dOrT, dAndT, dNotT, dBl, kBl, dTru, kTru, DL.truD, dOp, dCl, s1, s2, dCons, dNil, dVar, dMov, dC, kLenN, peek, lenW, noDict, lenD, sCmp, sOrd, sEq, kEq, sIn, sIsN, nonW, sInt, sAdd, sMul, sRows, rowD, flat, dsOf, seqW, dRet, dRetN, dDrop, dBrk, dCnt, dAsg, gN, gTp, gsCons, gsNil, DL.gSub, setW, useW, useWs, useD, nosto, nostos, fz, fzs, dCall, dCall0, argsD, argD, dLst, dTup, dIte, dAnd, dOr, dNot, dNeg, dBm, isTy, mApp, sIx, kItem, rowOf, dSl, kSl, dNo, dSo, kInt, kStr, kRepr, kListOf, kIsi, tyN, dFor, dRow, dRng1, dRng2, dComp, wipeE, dYes, dJoin, dJs, dFmt, kFmt, pkS, kI2, kAbs, okq, eqv, okqs, eqvs, kCat, dsOf_map, nostos_d, fzs_d, dChn, dRaise0, dRaise, dTryAs, dCallH, kIsX, dXf, kXf, dChN, dChT, dLinks, dBits, dIxMv, subX_ce, isExn, suE, dropX, dropO, keepX, nox, noxs, List.map_cons, List.map_nil, List.any_cons, List.any_nil, List.getElem?_cons_zero, List.getElem?_cons_succ, List.set_cons_zero, List.set_cons_succ, List.length_cons, List.length_nil, Option.bind_some, Option.map_some, if_true, if_false, Bool.false_eq_true, decide_eq_true_eq, true_and, List.length_map, Bool.not_true, Bool.not_false, Bool.not_eq_true', decide_eq_false_iff_not, Bool.false_bne, eq_self, beq_self_eq_true, Bool.true_bne, ite_self, reduceCtorEq, retE]
    exact ⟨_, rfl, hk _ (by omega) (by omega)⟩
  simp only [t__law_between_0_5, dSeq, dNext, dIf, dOrT, dAndT, dNotT, dBl, kBl, dTru, kTru, DL.truD, dOp, dCl, s1, s2, dCons, dNil, dVar, dMov, dC, kLenN, peek, lenW, noDict, lenD, sCmp, sOrd, sEq, kEq, sIn, sIsN, nonW, sInt, sAdd, sMul, sRows, rowD, flat, dsOf, seqW, dRet, dRetN, dDrop, dBrk, dCnt, dAsg, gN, gTp, gsCons, gsNil, DL.gSub, setW, useW, useWs, useD, nosto, nostos, fz, fzs, dCall, dCall0, argsD, argD, dLst, dTup, dIte, dAnd, dOr, dNot, dNeg, dBm, isTy, mApp, sIx, kItem, rowOf, dSl, kSl, dNo, dSo, kInt, kStr, kRepr, kListOf, kIsi, tyN, dFor, dRow, dRng1, dRng2, dComp, wipeE, dYes, dJoin, dJs, dFmt, kFmt, pkS, kI2, kAbs, okq, eqv, okqs, eqvs, kCat, dsOf_map, nostos_d, fzs_d, dChn, dRaise0, dRaise, dTryAs, dCallH, kIsX, dXf, kXf, dChN, dChT, dLinks, dBits, dIxMv, subX_ce, isExn, suE, dropX, dropO, keepX, nox, noxs, List.map_cons, List.map_nil, List.any_cons, List.any_nil, List.getElem?_cons_zero, List.getElem?_cons_succ, List.set_cons_zero, List.set_cons_succ, List.length_cons, List.length_nil, Option.bind_some, Option.map_some, if_true, if_false, Bool.false_eq_true, decide_eq_true_eq, true_and, List.length_map, Bool.not_true, Bool.not_false, Bool.not_eq_true', decide_eq_false_iff_not, Bool.false_bne, eq_self, beq_self_eq_true, Bool.true_bne, ite_self, reduceCtorEq, S__law_take, S_take]
  refine ⟨_, rfl, by omega, by omega, fun j j0 j1 => ?_⟩
  try simp only [dSeq, dNext, dIf, dOrT, dAndT, dNotT, dBl, kBl, dTru, kTru, DL.truD, dOp, dCl, s1, s2, dCons, dNil, dVar, dMov, dC, kLenN, peek, lenW, noDict, lenD, sCmp, sOrd, sEq, kEq, sIn, sIsN, nonW, sInt, sAdd, sMul, sRows, rowD, flat, dsOf, seqW, dRet, dRetN, dDrop, dBrk, dCnt, dAsg, gN, gTp, gsCons, gsNil, DL.gSub, setW, useW, useWs, useD, nosto, nostos, fz, fzs, dCall, dCall0, argsD, argD, dLst, dTup, dIte, dAnd, dOr, dNot, dNeg, dBm, isTy, mApp, sIx, kItem, rowOf, dSl, kSl, dNo, dSo, kInt, kStr, kRepr, kListOf, kIsi, tyN, dFor, dRow, dRng1, dRng2, dComp, wipeE, dYes, dJoin, dJs, dFmt, kFmt, pkS, kI2, kAbs, okq, eqv, okqs, eqvs, kCat, dsOf_map, nostos_d, fzs_d, dChn, dRaise0, dRaise, dTryAs, dCallH, kIsX, dXf, kXf, dChN, dChT, dLinks, dBits, dIxMv, subX_ce, isExn, suE, dropX, dropO, keepX, nox, noxs, List.map_cons, List.map_nil, List.any_cons, List.any_nil, List.getElem?_cons_zero, List.getElem?_cons_succ, List.set_cons_zero, List.set_cons_succ, List.length_cons, List.length_nil, Option.bind_some, Option.map_some, if_true, if_false, Bool.false_eq_true, decide_eq_true_eq, true_and, List.length_map, Bool.not_true, Bool.not_false, Bool.not_eq_true', decide_eq_false_iff_not, Bool.false_bne, eq_self, beq_self_eq_true, Bool.true_bne, ite_self, reduceCtorEq, clear, flatL, retE]
  exact ⟨_, rfl, hk _ (by omega) (by omega)⟩

end Lk25

open PySem DL
namespace Lk25
theorem p__law_wild : ∀ ws k kx, ws.length = 1 → S__law_wild ws k kx → t__law_wild (retE k) (fun x _ => kx x) (startE N__law_wild ws) := by
  rintro ws k kx - ⟨rfl, hk⟩
  rw [se__law_wild]
  simp only [t__law_wild, t__law_wild_0_0, dSeq, dNext, dIf, dOrT, dAndT, dNotT, dBl, kBl, dTru, kTru, DL.truD, dOp, dCl, s1, s2, dCons, dNil, dVar, dMov, dC, kLenN, peek, lenW, noDict, lenD, sCmp, sOrd, sEq, kEq, sIn, sIsN, nonW, sInt, sAdd, sMul, sRows, rowD, flat, dsOf, seqW, dRet, dRetN, dDrop, dBrk, dCnt, dAsg, gN, gTp, gsCons, gsNil, DL.gSub, setW, useW, useWs, useD, nosto, nostos, fz, fzs, dCall, dCall0, argsD, argD, dLst, dTup, dIte, dAnd, dOr, dNot, dNeg, dBm, isTy, mApp, sIx, kItem, rowOf, dSl, kSl, dNo, dSo, kInt, kStr, kRepr, kListOf, kIsi, tyN, dFor, dRow, dRng1, dRng2, dComp, wipeE, dYes, dJoin, dJs, dFmt, kFmt, pkS, kI2, kAbs, okq, eqv, okqs, eqvs, kCat, dsOf_map, nostos_d, fzs_d, dChn, dRaise0, dRaise, dTryAs, dCallH, kIsX, dXf, kXf, dChN, dChT, dLinks, dBits, dIxMv, subX_ce, isExn, suE, dropX, dropO, keepX, nox, noxs, List.map_cons, List.map_nil, List.any_cons, List.any_nil, List.getElem?_cons_zero, List.getElem?_cons_succ, List.set_cons_zero, List.set_cons_succ, List.length_cons, List.length_nil, Option.bind_some, Option.map_some, if_true, if_false, Bool.false_eq_true, decide_eq_true_eq, true_and, List.length_map, Bool.not_true, Bool.not_false, Bool.not_eq_true', decide_eq_false_iff_not, Bool.false_bne, eq_self, beq_self_eq_true, Bool.true_bne, ite_self, reduceCtorEq]
  refine ⟨⟨by decide, by decide +kernel⟩, ⟨by decide, by decide +kernel⟩, by decide, ?_⟩
  generalize ((10 : Int) ^ Int.toNat 60) ^ Int.toNat 6 = G
  simp only [t__law_wild_0_1, t__law_wild_0_2, dSeq, dNext, dIf, dOrT, dAndT, dNotT, dBl, kBl, dTru, kTru, DL.truD, dOp, dCl, s1, s2, dCons, dNil, dVar, dMov, dC, kLenN, peek, lenW, noDict, lenD, sCmp, sOrd, sEq, kEq, sIn, sIsN, nonW, sInt, sAdd, sMul, sRows, rowD, flat, dsOf, seqW, dRet, dRetN, dDrop, dBrk, dCnt, dAsg, gN, gTp, gsCons, gsNil, DL.gSub, setW, useW, useWs, useD, nosto, nostos, fz, fzs, dCall, dCall0, argsD, argD, dLst, dTup, dIte, dAnd, dOr, dNot, dNeg, dBm, isTy, mApp, sIx, kItem, rowOf, dSl, kSl, dNo, dSo, kInt, kStr, kRepr, kListOf, kIsi, tyN, dFor, dRow, dRng1, dRng2, dComp, wipeE, dYes, dJoin, dJs, dFmt, kFmt, pkS, kI2, kAbs, okq, eqv, okqs, eqvs, kCat, dsOf_map, nostos_d, fzs_d, dChn, dRaise0, dRaise, dTryAs, dCallH, kIsX, dXf, kXf, dChN, dChT, dLinks, dBits, dIxMv, subX_ce, isExn, suE, dropX, dropO, keepX, nox, noxs, List.map_cons, List.map_nil, List.any_cons, List.any_nil, List.getElem?_cons_zero, List.getElem?_cons_succ, List.set_cons_zero, List.set_cons_succ, List.length_cons, List.length_nil, Option.bind_some, Option.map_some, if_true, if_false, Bool.false_eq_true, decide_eq_true_eq, true_and, List.length_map, Bool.not_true, Bool.not_false, Bool.not_eq_true', decide_eq_false_iff_not, Bool.false_bne, eq_self, beq_self_eq_true, Bool.true_bne, ite_self, reduceCtorEq, useWs, S__law_take, S_take]
  refine ⟨⟨by decide, by decide +kernel⟩, ?_⟩
  generalize (10 : Int) ^ Int.toNat 18 = G2
  refine ⟨szl (by decide), rfl, by decide, _, rfl, by decide, by decide, fun i i0 i1 => ?_⟩
  try simp only [dSeq, dNext, dIf, dOrT, dAndT, dNotT, dBl, kBl, dTru, kTru, DL.truD, dOp, dCl, s1, s2, dCons, dNil, dVar, dMov, dC, kLenN, peek, lenW, noDict, lenD, sCmp, sOrd, sEq, kEq, sIn, sIsN, nonW, sInt, sAdd, sMul, sRows, rowD, flat, dsOf, seqW, dRet, dRetN, dDrop, dBrk, dCnt, dAsg, gN, gTp, gsCons, gsNil, DL.gSub, setW, useW, useWs, useD, nosto, nostos, fz, fzs, dCall, dCall0, argsD, argD, dLst, dTup, dIte, dAnd, dOr, dNot, dNeg, dBm, isTy, mApp, sIx, kItem, rowOf, dSl, kSl, dNo, dSo, kInt, kStr, kRepr, kListOf, kIsi, tyN, dFor, dRow, dRng1, dRng2, dComp, wipeE, dYes, dJoin, dJs, dFmt, kFmt, pkS, kI2, kAbs, okq, eqv, okqs, eqvs, kCat, dsOf_map, nostos_d, fzs_d, dChn, dRaise0, dRaise, dTryAs, dCallH, kIsX, dXf, kXf, dChN, dChT, dLinks, dBits, dIxMv, subX_ce, isExn, suE, dropX, dropO, keepX, nox, noxs, List.map_cons, List.map_nil, List.any_cons, List.any_nil, List.getElem?_cons_zero, List.getElem?_cons_succ, List.set_cons_zero, List.set_cons_succ, List.length_cons, List.length_nil, Option.bind_some, Option.map_some, if_true, if_false, Bool.false_eq_true, decide_eq_true_eq, true_and, List.length_map, Bool.not_true, Bool.not_false, Bool.not_eq_true', decide_eq_false_iff_not, Bool.false_bne, eq_self, beq_self_eq_true, Bool.true_bne, ite_self, reduceCtorEq, clear, flatL]
  obtain ⟨j, rfl⟩ : ∃ j : Nat, i = j := ⟨i.toNat, by omega⟩
  have at13 : ∀ n : Nat, n < 13 → ∃ v : Int, L2.atI [W.d (.int 0), .d (.int 1), .d (.int 2), .d (.int 9), .d (.int 10), .d (.int 11), .d (.int 15), .d (.int 16), .d (.int 17), .d (.int 64), .d (.int 65), .d (.int G2), .d (.int G)] (n : Int) = some (W.d (.int v)) := by
    intro n hn
    match n, hn with
    | 0, _ | 1, _ | 2, _ | 3, _ | 4, _ | 5, _ | 6, _ | 7, _ | 8, _ | 9, _ | 10, _ | 11, _ | 12, _ => exact ⟨_, L2.atI_nat rfl⟩
  obtain ⟨v, ev⟩ := at13 j (by omega)
  simp only [ev, t__law_wild_0_3, dSeq, dNext, dIf, dOrT, dAndT, dNotT, dBl, kBl, dTru, kTru, DL.truD, dOp, dCl, s1, s2, dCons, dNil, dVar, dMov, dC, kLenN, peek, lenW, noDict, lenD, sCmp, sOrd, sEq, kEq, sIn, sIsN, nonW, sInt, sAdd, sMul, sRows, rowD, flat, dsOf, seqW, dRet, dRetN, dDrop, dBrk, dCnt, dAsg, gN, gTp, gsCons, gsNil, DL.gSub, setW, useW, useWs, useD, nosto, nostos, fz, fzs, dCall, dCall0, argsD, argD, dLst, dTup, dIte, dAnd, dOr, dNot, dNeg, dBm, isTy, mApp, sIx, kItem, rowOf, dSl, kSl, dNo, dSo, kInt, kStr, kRepr, kListOf, kIsi, tyN, dFor, dRow, dRng1, dRng2, dComp, wipeE, dYes, dJoin, dJs, dFmt, kFmt, pkS, kI2, kAbs, okq, eqv, okqs, eqvs, kCat, dsOf_map, nostos_d, fzs_d, dChn, dRaise0, dRaise, dTryAs, dCallH, kIsX, dXf, kXf, dChN, dChT, dLinks, dBits, dIxMv, subX_ce, isExn, suE, dropX, dropO, keepX, nox, noxs, List.map_cons, List.map_nil, List.any_cons, List.any_nil, List.getElem?_cons_zero, List.getElem?_cons_succ, List.set_cons_zero, List.set_cons_succ, List.length_cons, List.length_nil, Option.bind_some, Option.map_some, if_true, if_false, Bool.false_eq_true, decide_eq_true_eq, true_and, List.length_map, Bool.not_true, Bool.not_false, Bool.not_eq_true', decide_eq_false_iff_not, Bool.false_bne, eq_self, beq_self_eq_true, Bool.true_bne, ite_self, reduceCtorEq, S__law_take, S_take]
  refine ⟨by decide, _, rfl, by decide, by decide, fun i2 _ _ => ?_⟩
  simp only [t__law_wild, t__law_wild_0_7, t__law_wild_1_0, t__law_wild_0_6, t__law_wild_2_0, t__law_wild_0_5, t__law_wild_3_0, t__law_wild_0_4, t__law_wild_0_3, t__law_wild_0_2, t__law_wild_0_1, t__law_wild_0_0, dSeq, dNext, dIf, dOrT, dAndT, dNotT, dBl, kBl, dTru, kTru, DL.truD, dOp, dCl, s1, s2, dCons, dNil, dVar, dMov, dC, kLenN, peek, lenW, noDict, lenD, sCmp, sOrd, sEq, kEq, sIn, sIsN, nonW, sInt, sAdd, sMul, sRows, rowD, flat, dsOf, seqW, dRet, dRetN, dDrop, dBrk, dCnt, dAsg, gN, gTp, gsCons, gsNil, DL.gSub, setW, useW, useWs, useD, nosto, nostos, fz, fzs, dCall, dCall0, argsD, argD, dLst, dTup, dIte, dAnd, dOr, dNot, dNeg, dBm, isTy, mApp, sIx, kItem, rowOf, dSl, kSl, dNo, dSo, kInt, kStr, kRepr, kListOf, kIsi, tyN, dFor, dRow, dRng1, dRng2, dComp, wipeE, dYes, dJoin, dJs, dFmt, kFmt, pkS, kI2, kAbs, okq, eqv, okqs, eqvs, kCat, dsOf_map, nostos_d, fzs_d, dChn, dRaise0, dRaise, dTryAs, dCallH, kIsX, dXf, kXf, dChN, dChT, dLinks, dBits, dIxMv, subX_ce, isExn, suE, dropX, dropO, keepX, nox, noxs, List.map_cons, List.map_nil, List.any_cons, List.any_nil, List.getElem?_cons_zero, List.getElem?_cons_succ, List.set_cons_zero, List.set_cons_succ, List.length_cons, List.length_nil, Option.bind_some, Option.map_some, if_true, if_false, Bool.false_eq_true, decide_eq_true_eq, true_and, List.length_map, Bool.not_true, Bool.not_false, Bool.not_eq_true', decide_eq_false_iff_not, Bool.false_bne, eq_self, beq_self_eq_true, Bool.true_bne, ite_self, reduceCtorEq, clear, flatL, S__law_take, S_take, retE]
  walk_at "crunch"
  all_goals first | exact ⟨_, rfl, hk _⟩ | skip
  exact ⟨_, rfl, by decide, by decide, fun i3 _ _ => ⟨_, rfl, hk _⟩⟩

end Lk25

open PySem DL
namespace Lk25
def pairW (x : D) : W := .ot [.d x, .d x]
def isRow (x : D) : Bool := (rowOf x).isSome
theorem mark_in (x : D) (h : pln x = true) : decide (markD x ∈ [100, 108, 116]) = isRow x := by cases x <;> first | rfl | cases h
theorem mark_63 (x : D) (h : pln x = true) : markD x ≠ 63 := by cases x <;> first | (cases h; done) | (intro e; simp [markD] at e)
theorem row_kids {x : D} {xs : List D} (h : rowOf x = some xs) : kids x = xs := by cases x <;> first | (cases h; rfl) | cases h
theorem p__law_same : ∀ ws k kx, ws.length = 2 → S__law_same ws k kx → t__law_same (retE k) (fun x _ => kx x) (startE N__law_same ws) := by
  rintro ws k kx - ⟨x0, rfl, hp, hs, hk⟩
  rw [se__law_same]
  simp only [t__law_same, t__law_same_0_0, dSeq, dNext, dIf, dOrT, dAndT, dNotT, dBl, kBl, dTru, kTru, DL.truD, dOp, dCl, s1, s2, dCons, dNil, dVar, dMov, dC, kLenN, peek, lenW, noDict, lenD, sCmp, sOrd, sEq, kEq, sIn, sIsN, nonW, sInt, sAdd, sMul, sRows, rowD, flat, dsOf, seqW, dRet, dRetN, dDrop, dBrk, dCnt, dAsg, gN, gTp, gsCons, gsNil, DL.gSub, setW, useW, useWs, useD, nosto, nostos, fz, fzs, dCall, dCall0, argsD, argD, dLst, dTup, dIte, dAnd, dOr, dNot, dNeg, dBm, isTy, mApp, sIx, kItem, rowOf, dSl, kSl, dNo, dSo, kInt, kStr, kRepr, kListOf, kIsi, tyN, dFor, dRow, dRng1, dRng2, dComp, wipeE, dYes, dJoin, dJs, dFmt, kFmt, pkS, kI2, kAbs, okq, eqv, okqs, eqvs, kCat, dsOf_map, nostos_d, fzs_d, dChn, dRaise0, dRaise, dTryAs, dCallH, kIsX, dXf, kXf, dChN, dChT, dLinks, dBits, dIxMv, subX_ce, isExn, suE, dropX, dropO, keepX, nox, noxs, List.map_cons, List.map_nil, List.any_cons, List.any_nil, List.getElem?_cons_zero, List.getElem?_cons_succ, List.set_cons_zero, List.set_cons_succ, List.length_cons, List.length_nil, Option.bind_some, Option.map_some, if_true, if_false, Bool.false_eq_true, decide_eq_true_eq, true_and, List.length_map, Bool.not_true, Bool.not_false, Bool.not_eq_true', decide_eq_false_iff_not, Bool.false_bne, eq_self, beq_self_eq_true, Bool.true_bne, ite_self, reduceCtorEq, useWs]
  walk_at "crunch"
  simp only [t__law_same_0_1, dSeq, dNext, dIf, dOrT, dAndT, dNotT, dBl, kBl, dTru, kTru, DL.truD, dOp, dCl, s1, s2, dCons, dNil, dVar, dMov, dC, kLenN, peek, lenW, noDict, lenD, sCmp, sOrd, sEq, kEq, sIn, sIsN, nonW, sInt, sAdd, sMul, sRows, rowD, flat, dsOf, seqW, dRet, dRetN, dDrop, dBrk, dCnt, dAsg, gN, gTp, gsCons, gsNil, DL.gSub, setW, useW, useWs, useD, nosto, nostos, fz, fzs, dCall, dCall0, argsD, argD, dLst, dTup, dIte, dAnd, dOr, dNot, dNeg, dBm, isTy, mApp, sIx, kItem, rowOf, dSl, kSl, dNo, dSo, kInt, kStr, kRepr, kListOf, kIsi, tyN, dFor, dRow, dRng1, dRng2, dComp, wipeE, dYes, dJoin, dJs, dFmt, kFmt, pkS, kI2, kAbs, okq, eqv, okqs, eqvs, kCat, dsOf_map, nostos_d, fzs_d, dChn, dRaise0, dRaise, dTryAs, dCallH, kIsX, dXf, kXf, dChN, dChT, dLinks, dBits, dIxMv, subX_ce, isExn, suE, dropX, dropO, keepX, nox, noxs, List.map_cons, List.map_nil, List.any_cons, List.any_nil, List.getElem?_cons_zero, List.getElem?_cons_succ, List.set_cons_zero, List.set_cons_succ, List.length_cons, List.length_nil, Option.bind_some, Option.map_some, if_true, if_false, Bool.false_eq_true, decide_eq_true_eq, true_and, List.length_map, Bool.not_true, Bool.not_false, Bool.not_eq_true', decide_eq_false_iff_not, Bool.false_bne, eq_self, beq_self_eq_true, Bool.true_bne, ite_self, reduceCtorEq]
  refine ⟨⟨by decide, by decide⟩, ?_⟩
  refine forR (hi := 40000) (fun i env => ∃ (st : List D) (o3 o4 o5 o6 o7 o8 o9 : Option W), env = [some (.d x0), some (.d x0), some (.ol (st.map pairW)), o3, o4, o5, o6, o7, o8, o9] ∧ 0 ≤ i ∧ plns st = true ∧ (szs st : Int) + i ≤ 39999) ?_ (n := 40000) (lo := 0) rfl ⟨[x0], none, none, none, none, none, none, none, rfl, by omega, by show (pln x0 && true) = true; rw [hp]; rfl, by show ((szD x0 + 0 : Nat) : Int) + 0 ≤ 39999; omega⟩ ?_
  rotate_left
  · rintro e ⟨st, _, _, _, _, _, _, _, _, _, _, h⟩
    exfalso
    omega
  rintro i env K hi ⟨st, o3, o4, o5, o6, o7, o8, o9, rfl, hi0, hpl, hsz⟩ hK
  simp only [dSeq, dNext, dIf, dOrT, dAndT, dNotT, dBl, kBl, dTru, kTru, DL.truD, dOp, dCl, s1, s2, dCons, dNil, dVar, dMov, dC, kLenN, peek, lenW, noDict, lenD, sCmp, sOrd, sEq, kEq, sIn, sIsN, nonW, sInt, sAdd, sMul, sRows, rowD, flat, dsOf, seqW, dRet, dRetN, dDrop, dBrk, dCnt, dAsg, gN, gTp, gsCons, gsNil, DL.gSub, setW, useW, useWs, useD, nosto, nostos, fz, fzs, dCall, dCall0, argsD, argD, dLst, dTup, dIte, dAnd, dOr, dNot, dNeg, dBm, isTy, mApp, sIx, kItem, rowOf, dSl, kSl, dNo, dSo, kInt, kStr, kRepr, kListOf, kIsi, tyN, dFor, dRow, dRng1, dRng2, dComp, wipeE, dYes, dJoin, dJs, dFmt, kFmt, pkS, kI2, kAbs, okq, eqv, okqs, eqvs, kCat, dsOf_map, nostos_d, fzs_d, dChn, dRaise0, dRaise, dTryAs, dCallH, kIsX, dXf, kXf, dChN, dChT, dLinks, dBits, dIxMv, subX_ce, isExn, suE, dropX, dropO, keepX, nox, noxs, List.map_cons, List.map_nil, List.any_cons, List.any_nil, List.getElem?_cons_zero, List.getElem?_cons_succ, List.set_cons_zero, List.set_cons_succ, List.length_cons, List.length_nil, Option.bind_some, Option.map_some, if_true, if_false, Bool.false_eq_true, decide_eq_true_eq, true_and, List.length_map, Bool.not_true, Bool.not_false, Bool.not_eq_true', decide_eq_false_iff_not, Bool.false_bne, eq_self, beq_self_eq_true, Bool.true_bne, ite_self, reduceCtorEq, t__law_same_1_0]
  refine ⟨by decide, Nat.zero_le _, ?_⟩
  rcases List.eq_nil_or_concat st with rfl | ⟨st', x, rfl⟩
  · simp only [List.map_nil, List.length_nil, t__law_same_8_0, dSeq, dNext, dIf, dOrT, dAndT, dNotT, dBl, kBl, dTru, kTru, DL.truD, dOp, dCl, s1, s2, dCons, dNil, dVar, dMov, dC, kLenN, peek, lenW, noDict, lenD, sCmp, sOrd, sEq, kEq, sIn, sIsN, nonW, sInt, sAdd, sMul, sRows, rowD, flat, dsOf, seqW, dRet, dRetN, dDrop, dBrk, dCnt, dAsg, gN, gTp, gsCons, gsNil, DL.gSub, setW, useW, useWs, useD, nosto, nostos, fz, fzs, dCall, dCall0, argsD, argD, dLst, dTup, dIte, dAnd, dOr, dNot, dNeg, dBm, isTy, mApp, sIx, kItem, rowOf, dSl, kSl, dNo, dSo, kInt, kStr, kRepr, kListOf, kIsi, tyN, dFor, dRow, dRng1, dRng2, dComp, wipeE, dYes, dJoin, dJs, dFmt, kFmt, pkS, kI2, kAbs, okq, eqv, okqs, eqvs, kCat, dsOf_map, nostos_d, fzs_d, dChn, dRaise0, dRaise, dTryAs, dCallH, kIsX, dXf, kXf, dChN, dChT, dLinks, dBits, dIxMv, subX_ce, isExn, suE, dropX, dropO, keepX, nox, noxs, List.map_cons, List.map_nil, List.any_cons, List.any_nil, List.getElem?_cons_zero, List.getElem?_cons_succ, List.set_cons_zero, List.set_cons_succ, List.length_cons, List.length_nil, Option.bind_some, Option.map_some, if_true, if_false, Bool.false_eq_true, decide_eq_true_eq, true_and, List.length_map, Bool.not_true, Bool.not_false, Bool.not_eq_true', decide_eq_false_iff_not, Bool.false_bne, eq_self, beq_self_eq_true, Bool.true_bne, ite_self, reduceCtorEq, retE]
    walk_at "crunch"
    all_goals first | exact ⟨_, rfl, hk⟩ | (exfalso; omega)
  rw [List.concat_eq_append] at *
  rw [plns_app] at hpl
  obtain ⟨hp1, hp2⟩ := band hpl
  have hpx : pln x = true := (band (show (pln x && true) = true from hp2)).1
  rw [szs_app] at hsz
  have hsz : ((szs st' + (szD x + 0) : Nat) : Int) + i ≤ 39999 := hsz
  have hkz := kids_sz x
  have lst := szs_len st'
  rw [if_neg (by simp; omega)]
  have eg : ((st' ++ [x]).map pairW).getLast? = some (pairW x) := by rw [List.map_append]; exact getLast_snoc _ _
  have ed : ((st' ++ [x]).map pairW).dropLast = st'.map pairW := by rw [List.map_append]; exact List.dropLast_concat ..
  simp only [t__law_same_1_1, dSeq, dNext, dIf, dOrT, dAndT, dNotT, dBl, kBl, dTru, kTru, DL.truD, dOp, dCl, s1, s2, dCons, dNil, dVar, dMov, dC, kLenN, peek, lenW, noDict, lenD, sCmp, sOrd, sEq, kEq, sIn, sIsN, nonW, sInt, sAdd, sMul, sRows, rowD, flat, dsOf, seqW, dRet, dRetN, dDrop, dBrk, dCnt, dAsg, gN, gTp, gsCons, gsNil, DL.gSub, setW, useW, useWs, useD, nosto, nostos, fz, fzs, dCall, dCall0, argsD, argD, dLst, dTup, dIte, dAnd, dOr, dNot, dNeg, dBm, isTy, mApp, sIx, kItem, rowOf, dSl, kSl, dNo, dSo, kInt, kStr, kRepr, kListOf, kIsi, tyN, dFor, dRow, dRng1, dRng2, dComp, wipeE, dYes, dJoin, dJs, dFmt, kFmt, pkS, kI2, kAbs, okq, eqv, okqs, eqvs, kCat, dsOf_map, nostos_d, fzs_d, dChn, dRaise0, dRaise, dTryAs, dCallH, kIsX, dXf, kXf, dChN, dChT, dLinks, dBits, dIxMv, subX_ce, isExn, suE, dropX, dropO, keepX, nox, noxs, List.map_cons, List.map_nil, List.any_cons, List.any_nil, List.getElem?_cons_zero, List.getElem?_cons_succ, List.set_cons_zero, List.set_cons_succ, List.length_cons, List.length_nil, Option.bind_some, Option.map_some, if_true, if_false, Bool.false_eq_true, decide_eq_true_eq, true_and, List.length_map, Bool.not_true, Bool.not_false, Bool.not_eq_true', decide_eq_false_iff_not, Bool.false_bne, eq_self, beq_self_eq_true, Bool.true_bne, ite_self, reduceCtorEq, mPop, eg, ed, pairW]
  refine ⟨by decide, ?_⟩
  walk_at "crunch"
  simp only [t__law_same_1_2, dSeq, dNext, dIf, dOrT, dAndT, dNotT, dBl, kBl, dTru, kTru, DL.truD, dOp, dCl, s1, s2, dCons, dNil, dVar, dMov, dC, kLenN, peek, lenW, noDict, lenD, sCmp, sOrd, sEq, kEq, sIn, sIsN, nonW, sInt, sAdd, sMul, sRows, rowD, flat, dsOf, seqW, dRet, dRetN, dDrop, dBrk, dCnt, dAsg, gN, gTp, gsCons, gsNil, DL.gSub, setW, useW, useWs, useD, nosto, nostos, fz, fzs, dCall, dCall0, argsD, argD, dLst, dTup, dIte, dAnd, dOr, dNot, dNeg, dBm, isTy, mApp, sIx, kItem, rowOf, dSl, kSl, dNo, dSo, kInt, kStr, kRepr, kListOf, kIsi, tyN, dFor, dRow, dRng1, dRng2, dComp, wipeE, dYes, dJoin, dJs, dFmt, kFmt, pkS, kI2, kAbs, okq, eqv, okqs, eqvs, kCat, dsOf_map, nostos_d, fzs_d, dChn, dRaise0, dRaise, dTryAs, dCallH, kIsX, dXf, kXf, dChN, dChT, dLinks, dBits, dIxMv, subX_ce, isExn, suE, dropX, dropO, keepX, nox, noxs, List.map_cons, List.map_nil, List.any_cons, List.any_nil, List.getElem?_cons_zero, List.getElem?_cons_succ, List.set_cons_zero, List.set_cons_succ, List.length_cons, List.length_nil, Option.bind_some, Option.map_some, if_true, if_false, Bool.false_eq_true, decide_eq_true_eq, true_and, List.length_map, Bool.not_true, Bool.not_false, Bool.not_eq_true', decide_eq_false_iff_not, Bool.false_bne, eq_self, beq_self_eq_true, Bool.true_bne, ite_self, reduceCtorEq, S__law_marking]
  refine ⟨_, rfl, hpx, ?_⟩
  try simp only [dSeq, dNext, dIf, dOrT, dAndT, dNotT, dBl, kBl, dTru, kTru, DL.truD, dOp, dCl, s1, s2, dCons, dNil, dVar, dMov, dC, kLenN, peek, lenW, noDict, lenD, sCmp, sOrd, sEq, kEq, sIn, sIsN, nonW, sInt, sAdd, sMul, sRows, rowD, flat, dsOf, seqW, dRet, dRetN, dDrop, dBrk, dCnt, dAsg, gN, gTp, gsCons, gsNil, DL.gSub, setW, useW, useWs, useD, nosto, nostos, fz, fzs, dCall, dCall0, argsD, argD, dLst, dTup, dIte, dAnd, dOr, dNot, dNeg, dBm, isTy, mApp, sIx, kItem, rowOf, dSl, kSl, dNo, dSo, kInt, kStr, kRepr, kListOf, kIsi, tyN, dFor, dRow, dRng1, dRng2, dComp, wipeE, dYes, dJoin, dJs, dFmt, kFmt, pkS, kI2, kAbs, okq, eqv, okqs, eqvs, kCat, dsOf_map, nostos_d, fzs_d, dChn, dRaise0, dRaise, dTryAs, dCallH, kIsX, dXf, kXf, dChN, dChT, dLinks, dBits, dIxMv, subX_ce, isExn, suE, dropX, dropO, keepX, nox, noxs, List.map_cons, List.map_nil, List.any_cons, List.any_nil, List.getElem?_cons_zero, List.getElem?_cons_succ, List.set_cons_zero, List.set_cons_succ, List.length_cons, List.length_nil, Option.bind_some, Option.map_some, if_true, if_false, Bool.false_eq_true, decide_eq_true_eq, true_and, List.length_map, Bool.not_true, Bool.not_false, Bool.not_eq_true', decide_eq_false_iff_not, Bool.false_bne, eq_self, beq_self_eq_true, Bool.true_bne, ite_self, reduceCtorEq, clear, flatL]
  walk_at "crunch"
  simp only [t__law_same_1_3, dSeq, dNext, dIf, dOrT, dAndT, dNotT, dBl, kBl, dTru, kTru, DL.truD, dOp, dCl, s1, s2, dCons, dNil, dVar, dMov, dC, kLenN, peek, lenW, noDict, lenD, sCmp, sOrd, sEq, kEq, sIn, sIsN, nonW, sInt, sAdd, sMul, sRows, rowD, flat, dsOf, seqW, dRet, dRetN, dDrop, dBrk, dCnt, dAsg, gN, gTp, gsCons, gsNil, DL.gSub, setW, useW, useWs, useD, nosto, nostos, fz, fzs, dCall, dCall0, argsD, argD, dLst, dTup, dIte, dAnd, dOr, dNot, dNeg, dBm, isTy, mApp, sIx, kItem, rowOf, dSl, kSl, dNo, dSo, kInt, kStr, kRepr, kListOf, kIsi, tyN, dFor, dRow, dRng1, dRng2, dComp, wipeE, dYes, dJoin, dJs, dFmt, kFmt, pkS, kI2, kAbs, okq, eqv, okqs, eqvs, kCat, dsOf_map, nostos_d, fzs_d, dChn, dRaise0, dRaise, dTryAs, dCallH, kIsX, dXf, kXf, dChN, dChT, dLinks, dBits, dIxMv, subX_ce, isExn, suE, dropX, dropO, keepX, nox, noxs, List.map_cons, List.map_nil, List.any_cons, List.any_nil, List.getElem?_cons_zero, List.getElem?_cons_succ, List.set_cons_zero, List.set_cons_succ, List.length_cons, List.length_nil, Option.bind_some, Option.map_some, if_true, if_false, Bool.false_eq_true, decide_eq_true_eq, true_and, List.length_map, Bool.not_true, Bool.not_false, Bool.not_eq_true', decide_eq_false_iff_not, Bool.false_bne, eq_self, beq_self_eq_true, Bool.true_bne, ite_self, reduceCtorEq, S__law_marking]
  refine ⟨_, rfl, hpx, ?_⟩
  try simp only [dSeq, dNext, dIf, dOrT, dAndT, dNotT, dBl, kBl, dTru, kTru, DL.truD, dOp, dCl, s1, s2, dCons, dNil, dVar, dMov, dC, kLenN, peek, lenW, noDict, lenD, sCmp, sOrd, sEq, kEq, sIn, sIsN, nonW, sInt, sAdd, sMul, sRows, rowD, flat, dsOf, seqW, dRet, dRetN, dDrop, dBrk, dCnt, dAsg, gN, gTp, gsCons, gsNil, DL.gSub, setW, useW, useWs, useD, nosto, nostos, fz, fzs, dCall, dCall0, argsD, argD, dLst, dTup, dIte, dAnd, dOr, dNot, dNeg, dBm, isTy, mApp, sIx, kItem, rowOf, dSl, kSl, dNo, dSo, kInt, kStr, kRepr, kListOf, kIsi, tyN, dFor, dRow, dRng1, dRng2, dComp, wipeE, dYes, dJoin, dJs, dFmt, kFmt, pkS, kI2, kAbs, okq, eqv, okqs, eqvs, kCat, dsOf_map, nostos_d, fzs_d, dChn, dRaise0, dRaise, dTryAs, dCallH, kIsX, dXf, kXf, dChN, dChT, dLinks, dBits, dIxMv, subX_ce, isExn, suE, dropX, dropO, keepX, nox, noxs, List.map_cons, List.map_nil, List.any_cons, List.any_nil, List.getElem?_cons_zero, List.getElem?_cons_succ, List.set_cons_zero, List.set_cons_succ, List.length_cons, List.length_nil, Option.bind_some, Option.map_some, if_true, if_false, Bool.false_eq_true, decide_eq_true_eq, true_and, List.length_map, Bool.not_true, Bool.not_false, Bool.not_eq_true', decide_eq_false_iff_not, Bool.false_bne, eq_self, beq_self_eq_true, Bool.true_bne, ite_self, reduceCtorEq, clear, flatL]
  rw [if_neg (by simpa using mark_63 x hpx)]
  simp only [t__law_same_1_4, dSeq, dNext, dIf, dOrT, dAndT, dNotT, dBl, kBl, dTru, kTru, DL.truD, dOp, dCl, s1, s2, dCons, dNil, dVar, dMov, dC, kLenN, peek, lenW, noDict, lenD, sCmp, sOrd, sEq, kEq, sIn, sIsN, nonW, sInt, sAdd, sMul, sRows, rowD, flat, dsOf, seqW, dRet, dRetN, dDrop, dBrk, dCnt, dAsg, gN, gTp, gsCons, gsNil, DL.gSub, setW, useW, useWs, useD, nosto, nostos, fz, fzs, dCall, dCall0, argsD, argD, dLst, dTup, dIte, dAnd, dOr, dNot, dNeg, dBm, isTy, mApp, sIx, kItem, rowOf, dSl, kSl, dNo, dSo, kInt, kStr, kRepr, kListOf, kIsi, tyN, dFor, dRow, dRng1, dRng2, dComp, wipeE, dYes, dJoin, dJs, dFmt, kFmt, pkS, kI2, kAbs, okq, eqv, okqs, eqvs, kCat, dsOf_map, nostos_d, fzs_d, dChn, dRaise0, dRaise, dTryAs, dCallH, kIsX, dXf, kXf, dChN, dChT, dLinks, dBits, dIxMv, subX_ce, isExn, suE, dropX, dropO, keepX, nox, noxs, List.map_cons, List.map_nil, List.any_cons, List.any_nil, List.getElem?_cons_zero, List.getElem?_cons_succ, List.set_cons_zero, List.set_cons_succ, List.length_cons, List.length_nil, Option.bind_some, Option.map_some, if_true, if_false, Bool.false_eq_true, decide_eq_true_eq, true_and, List.length_map, Bool.not_true, Bool.not_false, Bool.not_eq_true', decide_eq_false_iff_not, Bool.false_bne, eq_self, beq_self_eq_true, Bool.true_bne, ite_self, reduceCtorEq, mark_in x hpx]
  have next : ∀ st2 o4 o5 o6 o7 o8 o9, plns st2 = true → szs st2 ≤ szs st' + szs (kids x) → K [some (.d x0), some (.d x0), some (.ol (st2.map pairW)), some (.d (.int i)), o4, o5, o6, o7, o8, o9] := fun st2 o4 o5 o6 o7 o8 o9 h1 h2 =>
    hK _ ⟨st2, _, _, _, _, _, _, _, rfl, by omega, h1, by omega⟩
  cases hr : rowOf x with
  | none =>
    have hi : isRow x = false := by unfold isRow; rw [hr]; rfl
    simp only [hi, Bool.false_eq_true, if_false, t__law_same_5_0, dSeq, dNext, dIf, dOrT, dAndT, dNotT, dBl, kBl, dTru, kTru, DL.truD, dOp, dCl, s1, s2, dCons, dNil, dVar, dMov, dC, kLenN, peek, lenW, noDict, lenD, sCmp, sOrd, sEq, kEq, sIn, sIsN, nonW, sInt, sAdd, sMul, sRows, rowD, flat, dsOf, seqW, dRet, dRetN, dDrop, dBrk, dCnt, dAsg, gN, gTp, gsCons, gsNil, DL.gSub, setW, useW, useWs, useD, nosto, nostos, fz, fzs, dCall, dCall0, argsD, argD, dLst, dTup, dIte, dAnd, dOr, dNot, dNeg, dBm, isTy, mApp, sIx, kItem, rowOf, dSl, kSl, dNo, dSo, kInt, kStr, kRepr, kListOf, kIsi, tyN, dFor, dRow, dRng1, dRng2, dComp, wipeE, dYes, dJoin, dJs, dFmt, kFmt, pkS, kI2, kAbs, okq, eqv, okqs, eqvs, kCat, dsOf_map, nostos_d, fzs_d, dChn, dRaise0, dRaise, dTryAs, dCallH, kIsX, dXf, kXf, dChN, dChT, dLinks, dBits, dIxMv, subX_ce, isExn, suE, dropX, dropO, keepX, nox, noxs, List.map_cons, List.map_nil, List.any_cons, List.any_nil, List.getElem?_cons_zero, List.getElem?_cons_succ, List.set_cons_zero, List.set_cons_succ, List.length_cons, List.length_nil, Option.bind_some, Option.map_some, if_true, if_false, Bool.false_eq_true, decide_eq_true_eq, true_and, List.length_map, Bool.not_true, Bool.not_false, Bool.not_eq_true', decide_eq_false_iff_not, Bool.false_bne, eq_self, beq_self_eq_true, Bool.true_bne, ite_self, reduceCtorEq]
    have nx := next st' (some (.d x)) (some (.d x)) (some (.d (.str [markD x]))) o7 o8 o9 hp1 (by omega)
    cases x with
    | non => simp only [dSeq, dNext, dIf, dOrT, dAndT, dNotT, dBl, kBl, dTru, kTru, DL.truD, dOp, dCl, s1, s2, dCons, dNil, dVar, dMov, dC, kLenN, peek, lenW, noDict, lenD, sCmp, sOrd, sEq, kEq, sIn, sIsN, nonW, sInt, sAdd, sMul, sRows, rowD, flat, dsOf, seqW, dRet, dRetN, dDrop, dBrk, dCnt, dAsg, gN, gTp, gsCons, gsNil, DL.gSub, setW, useW, useWs, useD, nosto, nostos, fz, fzs, dCall, dCall0, argsD, argD, dLst, dTup, dIte, dAnd, dOr, dNot, dNeg, dBm, isTy, mApp, sIx, kItem, rowOf, dSl, kSl, dNo, dSo, kInt, kStr, kRepr, kListOf, kIsi, tyN, dFor, dRow, dRng1, dRng2, dComp, wipeE, dYes, dJoin, dJs, dFmt, kFmt, pkS, kI2, kAbs, okq, eqv, okqs, eqvs, kCat, dsOf_map, nostos_d, fzs_d, dChn, dRaise0, dRaise, dTryAs, dCallH, kIsX, dXf, kXf, dChN, dChT, dLinks, dBits, dIxMv, subX_ce, isExn, suE, dropX, dropO, keepX, nox, noxs, List.map_cons, List.map_nil, List.any_cons, List.any_nil, List.getElem?_cons_zero, List.getElem?_cons_succ, List.set_cons_zero, List.set_cons_succ, List.length_cons, List.length_nil, Option.bind_some, Option.map_some, if_true, if_false, Bool.false_eq_true, decide_eq_true_eq, true_and, List.length_map, Bool.not_true, Bool.not_false, Bool.not_eq_true', decide_eq_false_iff_not, Bool.false_bne, eq_self, beq_self_eq_true, Bool.true_bne, ite_self, reduceCtorEq, markD, beq_self_eq_true, Bool.true_bne, Bool.not_true]; walk_at "crunch"; all_goals first | exact nx | (exfalso; first | omega | simp_all)
    | bl b => simp only [dSeq, dNext, dIf, dOrT, dAndT, dNotT, dBl, kBl, dTru, kTru, DL.truD, dOp, dCl, s1, s2, dCons, dNil, dVar, dMov, dC, kLenN, peek, lenW, noDict, lenD, sCmp, sOrd, sEq, kEq, sIn, sIsN, nonW, sInt, sAdd, sMul, sRows, rowD, flat, dsOf, seqW, dRet, dRetN, dDrop, dBrk, dCnt, dAsg, gN, gTp, gsCons, gsNil, DL.gSub, setW, useW, useWs, useD, nosto, nostos, fz, fzs, dCall, dCall0, argsD, argD, dLst, dTup, dIte, dAnd, dOr, dNot, dNeg, dBm, isTy, mApp, sIx, kItem, rowOf, dSl, kSl, dNo, dSo, kInt, kStr, kRepr, kListOf, kIsi, tyN, dFor, dRow, dRng1, dRng2, dComp, wipeE, dYes, dJoin, dJs, dFmt, kFmt, pkS, kI2, kAbs, okq, eqv, okqs, eqvs, kCat, dsOf_map, nostos_d, fzs_d, dChn, dRaise0, dRaise, dTryAs, dCallH, kIsX, dXf, kXf, dChN, dChT, dLinks, dBits, dIxMv, subX_ce, isExn, suE, dropX, dropO, keepX, nox, noxs, List.map_cons, List.map_nil, List.any_cons, List.any_nil, List.getElem?_cons_zero, List.getElem?_cons_succ, List.set_cons_zero, List.set_cons_succ, List.length_cons, List.length_nil, Option.bind_some, Option.map_some, if_true, if_false, Bool.false_eq_true, decide_eq_true_eq, true_and, List.length_map, Bool.not_true, Bool.not_false, Bool.not_eq_true', decide_eq_false_iff_not, Bool.false_bne, eq_self, beq_self_eq_true, Bool.true_bne, ite_self, reduceCtorEq, markD, beq_self_eq_true, Bool.true_bne, Bool.not_true]; cases b <;> (walk_at "crunch"; all_goals first | exact nx | (exfalso; first | omega | simp_all))
    | int n => simp only [dSeq, dNext, dIf, dOrT, dAndT, dNotT, dBl, kBl, dTru, kTru, DL.truD, dOp, dCl, s1, s2, dCons, dNil, dVar, dMov, dC, kLenN, peek, lenW, noDict, lenD, sCmp, sOrd, sEq, kEq, sIn, sIsN, nonW, sInt, sAdd, sMul, sRows, rowD, flat, dsOf, seqW, dRet, dRetN, dDrop, dBrk, dCnt, dAsg, gN, gTp, gsCons, gsNil, DL.gSub, setW, useW, useWs, useD, nosto, nostos, fz, fzs, dCall, dCall0, argsD, argD, dLst, dTup, dIte, dAnd, dOr, dNot, dNeg, dBm, isTy, mApp, sIx, kItem, rowOf, dSl, kSl, dNo, dSo, kInt, kStr, kRepr, kListOf, kIsi, tyN, dFor, dRow, dRng1, dRng2, dComp, wipeE, dYes, dJoin, dJs, dFmt, kFmt, pkS, kI2, kAbs, okq, eqv, okqs, eqvs, kCat, dsOf_map, nostos_d, fzs_d, dChn, dRaise0, dRaise, dTryAs, dCallH, kIsX, dXf, kXf, dChN, dChT, dLinks, dBits, dIxMv, subX_ce, isExn, suE, dropX, dropO, keepX, nox, noxs, List.map_cons, List.map_nil, List.any_cons, List.any_nil, List.getElem?_cons_zero, List.getElem?_cons_succ, List.set_cons_zero, List.set_cons_succ, List.length_cons, List.length_nil, Option.bind_some, Option.map_some, if_true, if_false, Bool.false_eq_true, decide_eq_true_eq, true_and, List.length_map, Bool.not_true, Bool.not_false, Bool.not_eq_true', decide_eq_false_iff_not, Bool.false_bne, eq_self, beq_self_eq_true, Bool.true_bne, ite_self, reduceCtorEq, markD, beq_self_eq_true, Bool.true_bne, Bool.not_true]; walk_at "crunch"; all_goals first | exact nx | (exfalso; first | omega | simp_all)
    | str s => simp only [dSeq, dNext, dIf, dOrT, dAndT, dNotT, dBl, kBl, dTru, kTru, DL.truD, dOp, dCl, s1, s2, dCons, dNil, dVar, dMov, dC, kLenN, peek, lenW, noDict, lenD, sCmp, sOrd, sEq, kEq, sIn, sIsN, nonW, sInt, sAdd, sMul, sRows, rowD, flat, dsOf, seqW, dRet, dRetN, dDrop, dBrk, dCnt, dAsg, gN, gTp, gsCons, gsNil, DL.gSub, setW, useW, useWs, useD, nosto, nostos, fz, fzs, dCall, dCall0, argsD, argD, dLst, dTup, dIte, dAnd, dOr, dNot, dNeg, dBm, isTy, mApp, sIx, kItem, rowOf, dSl, kSl, dNo, dSo, kInt, kStr, kRepr, kListOf, kIsi, tyN, dFor, dRow, dRng1, dRng2, dComp, wipeE, dYes, dJoin, dJs, dFmt, kFmt, pkS, kI2, kAbs, okq, eqv, okqs, eqvs, kCat, dsOf_map, nostos_d, fzs_d, dChn, dRaise0, dRaise, dTryAs, dCallH, kIsX, dXf, kXf, dChN, dChT, dLinks, dBits, dIxMv, subX_ce, isExn, suE, dropX, dropO, keepX, nox, noxs, List.map_cons, List.map_nil, List.any_cons, List.any_nil, List.getElem?_cons_zero, List.getElem?_cons_succ, List.set_cons_zero, List.set_cons_succ, List.length_cons, List.length_nil, Option.bind_some, Option.map_some, if_true, if_false, Bool.false_eq_true, decide_eq_true_eq, true_and, List.length_map, Bool.not_true, Bool.not_false, Bool.not_eq_true', decide_eq_false_iff_not, Bool.false_bne, eq_self, beq_self_eq_true, Bool.true_bne, ite_self, reduceCtorEq, markD, beq_self_eq_true, Bool.true_bne, Bool.not_true]; walk_at "crunch"; all_goals first | exact nx | (exfalso; first | omega | simp_all)
    | _ => first | (cases hpx; done) | (cases hr; done)
  | some xs =>
    have ek := row_kids hr
    have hpk := kids_pln hpx
    have lk := szs_len (kids x)
    rw [ek] at hpk lk hkz next
    have hi : isRow x = true := by unfold isRow; rw [hr]; rfl
    simp only [hi, if_true, t__law_same_2_0, dSeq, dNext, dIf, dOrT, dAndT, dNotT, dBl, kBl, dTru, kTru, DL.truD, dOp, dCl, s1, s2, dCons, dNil, dVar, dMov, dC, kLenN, peek, lenW, noDict, lenD, sCmp, sOrd, sEq, kEq, sIn, sIsN, nonW, sInt, sAdd, sMul, sRows, rowD, flat, dsOf, seqW, dRet, dRetN, dDrop, dBrk, dCnt, dAsg, gN, gTp, gsCons, gsNil, DL.gSub, setW, useW, useWs, useD, nosto, nostos, fz, fzs, dCall, dCall0, argsD, argD, dLst, dTup, dIte, dAnd, dOr, dNot, dNeg, dBm, isTy, mApp, sIx, kItem, rowOf, dSl, kSl, dNo, dSo, kInt, kStr, kRepr, kListOf, kIsi, tyN, dFor, dRow, dRng1, dRng2, dComp, wipeE, dYes, dJoin, dJs, dFmt, kFmt, pkS, kI2, kAbs, okq, eqv, okqs, eqvs, kCat, dsOf_map, nostos_d, fzs_d, dChn, dRaise0, dRaise, dTryAs, dCallH, kIsX, dXf, kXf, dChN, dChT, dLinks, dBits, dIxMv, subX_ce, isExn, suE, dropX, dropO, keepX, nox, noxs, List.map_cons, List.map_nil, List.any_cons, List.any_nil, List.getElem?_cons_zero, List.getElem?_cons_succ, List.set_cons_zero, List.set_cons_succ, List.length_cons, List.length_nil, Option.bind_some, Option.map_some, if_true, if_false, Bool.false_eq_true, decide_eq_true_eq, true_and, List.length_map, Bool.not_true, Bool.not_false, Bool.not_eq_true', decide_eq_false_iff_not, Bool.false_bne, eq_self, beq_self_eq_true, Bool.true_bne, ite_self, reduceCtorEq, S__law_parts]
    refine ⟨x, xs, rfl, hr, ?_⟩
    have tail : t__law_same_2_1 { nx := K, rt := (retE k).rt, bk := fun e1 => t__law_same_0_2 (retE k) (fun x _ => kx x) e1, ct := K } (fun x _ => kx x) [some (.d x0), some (.d x0), some (.ol (st'.map pairW)), some (.d (.int i)), some (.d x), some (.d x), some (.d (.str [markD x])), some (.ol (xs.map .d)), o8, o9] := by
      simp only [t__law_same_2_1, dSeq, dNext, dIf, dOrT, dAndT, dNotT, dBl, kBl, dTru, kTru, DL.truD, dOp, dCl, s1, s2, dCons, dNil, dVar, dMov, dC, kLenN, peek, lenW, noDict, lenD, sCmp, sOrd, sEq, kEq, sIn, sIsN, nonW, sInt, sAdd, sMul, sRows, rowD, flat, dsOf, seqW, dRet, dRetN, dDrop, dBrk, dCnt, dAsg, gN, gTp, gsCons, gsNil, DL.gSub, setW, useW, useWs, useD, nosto, nostos, fz, fzs, dCall, dCall0, argsD, argD, dLst, dTup, dIte, dAnd, dOr, dNot, dNeg, dBm, isTy, mApp, sIx, kItem, rowOf, dSl, kSl, dNo, dSo, kInt, kStr, kRepr, kListOf, kIsi, tyN, dFor, dRow, dRng1, dRng2, dComp, wipeE, dYes, dJoin, dJs, dFmt, kFmt, pkS, kI2, kAbs, okq, eqv, okqs, eqvs, kCat, dsOf_map, nostos_d, fzs_d, dChn, dRaise0, dRaise, dTryAs, dCallH, kIsX, dXf, kXf, dChN, dChT, dLinks, dBits, dIxMv, subX_ce, isExn, suE, dropX, dropO, keepX, nox, noxs, List.map_cons, List.map_nil, List.any_cons, List.any_nil, List.getElem?_cons_zero, List.getElem?_cons_succ, List.set_cons_zero, List.set_cons_succ, List.length_cons, List.length_nil, Option.bind_some, Option.map_some, if_true, if_false, Bool.false_eq_true, decide_eq_true_eq, true_and, List.length_map, Bool.not_true, Bool.not_false, Bool.not_eq_true', decide_eq_false_iff_not, Bool.false_bne, eq_self, beq_self_eq_true, Bool.true_bne, ite_self, reduceCtorEq, S__law_parts]
      refine ⟨x, xs, rfl, hr, ?_⟩
      have tail2 : t__law_same_2_2 { nx := K, rt := (retE k).rt, bk := fun e1 => t__law_same_0_2 (retE k) (fun x _ => kx x) e1, ct := K } (fun x _ => kx x) [some (.d x0), some (.d x0), some (.ol (st'.map pairW)), some (.d (.int i)), some (.d x), some (.d x), some (.d (.str [markD x])), some (.ol (xs.map .d)), some (.ol (xs.map .d)), o9] := by
        simp only [t__law_same_2_2, dSeq, dNext, dIf, dOrT, dAndT, dNotT, dBl, kBl, dTru, kTru, DL.truD, dOp, dCl, s1, s2, dCons, dNil, dVar, dMov, dC, kLenN, peek, lenW, noDict, lenD, sCmp, sOrd, sEq, kEq, sIn, sIsN, nonW, sInt, sAdd, sMul, sRows, rowD, flat, dsOf, seqW, dRet, dRetN, dDrop, dBrk, dCnt, dAsg, gN, gTp, gsCons, gsNil, DL.gSub, setW, useW, useWs, useD, nosto, nostos, fz, fzs, dCall, dCall0, argsD, argD, dLst, dTup, dIte, dAnd, dOr, dNot, dNeg, dBm, isTy, mApp, sIx, kItem, rowOf, dSl, kSl, dNo, dSo, kInt, kStr, kRepr, kListOf, kIsi, tyN, dFor, dRow, dRng1, dRng2, dComp, wipeE, dYes, dJoin, dJs, dFmt, kFmt, pkS, kI2, kAbs, okq, eqv, okqs, eqvs, kCat, dsOf_map, nostos_d, fzs_d, dChn, dRaise0, dRaise, dTryAs, dCallH, kIsX, dXf, kXf, dChN, dChT, dLinks, dBits, dIxMv, subX_ce, isExn, suE, dropX, dropO, keepX, nox, noxs, List.map_cons, List.map_nil, List.any_cons, List.any_nil, List.getElem?_cons_zero, List.getElem?_cons_succ, List.set_cons_zero, List.set_cons_succ, List.length_cons, List.length_nil, Option.bind_some, Option.map_some, if_true, if_false, Bool.false_eq_true, decide_eq_true_eq, true_and, List.length_map, Bool.not_true, Bool.not_false, Bool.not_eq_true', decide_eq_false_iff_not, Bool.false_bne, eq_self, beq_self_eq_true, Bool.true_bne, ite_self, reduceCtorEq]
        walk_at "crunch"
        simp only [t__law_same_2_3, dSeq, dNext, dIf, dOrT, dAndT, dNotT, dBl, kBl, dTru, kTru, DL.truD, dOp, dCl, s1, s2, dCons, dNil, dVar, dMov, dC, kLenN, peek, lenW, noDict, lenD, sCmp, sOrd, sEq, kEq, sIn, sIsN, nonW, sInt, sAdd, sMul, sRows, rowD, flat, dsOf, seqW, dRet, dRetN, dDrop, dBrk, dCnt, dAsg, gN, gTp, gsCons, gsNil, DL.gSub, setW, useW, useWs, useD, nosto, nostos, fz, fzs, dCall, dCall0, argsD, argD, dLst, dTup, dIte, dAnd, dOr, dNot, dNeg, dBm, isTy, mApp, sIx, kItem, rowOf, dSl, kSl, dNo, dSo, kInt, kStr, kRepr, kListOf, kIsi, tyN, dFor, dRow, dRng1, dRng2, dComp, wipeE, dYes, dJoin, dJs, dFmt, kFmt, pkS, kI2, kAbs, okq, eqv, okqs, eqvs, kCat, dsOf_map, nostos_d, fzs_d, dChn, dRaise0, dRaise, dTryAs, dCallH, kIsX, dXf, kXf, dChN, dChT, dLinks, dBits, dIxMv, subX_ce, isExn, suE, dropX, dropO, keepX, nox, noxs, List.map_cons, List.map_nil, List.any_cons, List.any_nil, List.getElem?_cons_zero, List.getElem?_cons_succ, List.set_cons_zero, List.set_cons_succ, List.length_cons, List.length_nil, Option.bind_some, Option.map_some, if_true, if_false, Bool.false_eq_true, decide_eq_true_eq, true_and, List.length_map, Bool.not_true, Bool.not_false, Bool.not_eq_true', decide_eq_false_iff_not, Bool.false_bne, eq_self, beq_self_eq_true, Bool.true_bne, ite_self, reduceCtorEq]
        refine ⟨Nat.zero_le _, ⟨by omega, by omega⟩, ?_⟩
        refine forR (hi := xs.length) (fun j env => ∃ (n : Nat) (o9 : Option W), j = n ∧ n ≤ xs.length ∧ env = [some (.d x0), some (.d x0), some (.ol ((st' ++ xs.take n).map pairW)), some (.d (.int i)), some (.d x), some (.d x), some (.d (.str [markD x])), some (.ol (xs.map .d)), some (.ol (xs.map .d)), o9]) ?_ (n := xs.length) (lo := 0) (by omega) ⟨0, o9, rfl, Nat.zero_le _, by simp⟩ ?_
        · rintro j env K2 hj ⟨n, o9, rfl, hn, rfl⟩ hK2
          have hn' : n < xs.length := by omega
          have ea : L2.atI (xs.map W.d) (n : Int) = some (W.d xs[n]) := L2.atI_nat (by rw [List.getElem?_map, List.getElem?_eq_getElem hn']; rfl)
          simp only [dSeq, dNext, dIf, dOrT, dAndT, dNotT, dBl, kBl, dTru, kTru, DL.truD, dOp, dCl, s1, s2, dCons, dNil, dVar, dMov, dC, kLenN, peek, lenW, noDict, lenD, sCmp, sOrd, sEq, kEq, sIn, sIsN, nonW, sInt, sAdd, sMul, sRows, rowD, flat, dsOf, seqW, dRet, dRetN, dDrop, dBrk, dCnt, dAsg, gN, gTp, gsCons, gsNil, DL.gSub, setW, useW, useWs, useD, nosto, nostos, fz, fzs, dCall, dCall0, argsD, argD, dLst, dTup, dIte, dAnd, dOr, dNot, dNeg, dBm, isTy, mApp, sIx, kItem, rowOf, dSl, kSl, dNo, dSo, kInt, kStr, kRepr, kListOf, kIsi, tyN, dFor, dRow, dRng1, dRng2, dComp, wipeE, dYes, dJoin, dJs, dFmt, kFmt, pkS, kI2, kAbs, okq, eqv, okqs, eqvs, kCat, dsOf_map, nostos_d, fzs_d, dChn, dRaise0, dRaise, dTryAs, dCallH, kIsX, dXf, kXf, dChN, dChT, dLinks, dBits, dIxMv, subX_ce, isExn, suE, dropX, dropO, keepX, nox, noxs, List.map_cons, List.map_nil, List.any_cons, List.any_nil, List.getElem?_cons_zero, List.getElem?_cons_succ, List.set_cons_zero, List.set_cons_succ, List.length_cons, List.length_nil, Option.bind_some, Option.map_some, if_true, if_false, Bool.false_eq_true, decide_eq_true_eq, true_and, List.length_map, Bool.not_true, Bool.not_false, Bool.not_eq_true', decide_eq_false_iff_not, Bool.false_bne, eq_self, beq_self_eq_true, Bool.true_bne, ite_self, reduceCtorEq, t__law_same_3_0, useWs, ea]
          have l1 : (List.map pairW (st' ++ xs.take n)).length < sizeLine := szl' (by rw [List.length_map, List.length_append, List.length_take]; omega)
          try rw [List.length_map] at l1
          walk_at "crunch"
          refine hK2 _ ⟨n + 1, some (.d (.int n)), by omega, hn', ?_⟩
          rw [List.take_succ_eq_append_getElem hn', ← List.append_assoc, List.map_append (l₁ := st' ++ xs.take n)]
          rfl
        · rintro e ⟨n, o9, hn, hn', rfl⟩
          have en : n = xs.length := by omega
          subst en
          rw [List.take_length]
          exact next _ _ _ _ _ _ _ (by rw [plns_app, hp1, hpk]; rfl) (by rw [szs_app]; omega)
      exact ⟨by decide, tail2⟩
    exact ⟨by decide, tail⟩

end Lk25

open PySem DL
namespace Lk25
theorem p__law_caught : ∀ ws k kx, ws.length = 1 → S__law_caught ws k kx → t__law_caught (retE k) (fun x _ => kx x) (startE N__law_caught ws) := by
  rintro ws k kx - ⟨c, fs, rfl, hc, hk⟩
  rw [se__law_caught]
  simp only [t__law_caught, t__law_caught_0_1, t__law_caught_0_0, dSeq, dNext, dIf, dOrT, dAndT, dNotT, dBl, kBl, dTru, kTru, DL.truD, dOp, dCl, s1, s2, dCons, dNil, dVar, dMov, dC, kLenN, peek, lenW, noDict, lenD, sCmp, sOrd, sEq, kEq, sIn, sIsN, nonW, sInt, sAdd, sMul, sRows, rowD, flat, dsOf, seqW, dRet, dRetN, dDrop, dBrk, dCnt, dAsg, gN, gTp, gsCons, gsNil, DL.gSub, setW, useW, useWs, useD, nosto, nostos, fz, fzs, dCall, dCall0, argsD, argD, dLst, dTup, dIte, dAnd, dOr, dNot, dNeg, dBm, isTy, mApp, sIx, kItem, rowOf, dSl, kSl, dNo, dSo, kInt, kStr, kRepr, kListOf, kIsi, tyN, dFor, dRow, dRng1, dRng2, dComp, wipeE, dYes, dJoin, dJs, dFmt, kFmt, pkS, kI2, kAbs, okq, eqv, okqs, eqvs, kCat, dsOf_map, nostos_d, fzs_d, dChn, dRaise0, dRaise, dTryAs, dCallH, kIsX, dXf, kXf, dChN, dChT, dLinks, dBits, dIxMv, subX_ce, isExn, suE, dropX, dropO, keepX, nox, noxs, List.map_cons, List.map_nil, List.any_cons, List.any_nil, List.getElem?_cons_zero, List.getElem?_cons_succ, List.set_cons_zero, List.set_cons_succ, List.length_cons, List.length_nil, Option.bind_some, Option.map_some, if_true, if_false, Bool.false_eq_true, decide_eq_true_eq, true_and, List.length_map, Bool.not_true, Bool.not_false, Bool.not_eq_true', decide_eq_false_iff_not, Bool.false_bne, eq_self, beq_self_eq_true, Bool.true_bne, ite_self, reduceCtorEq, useWs, S__law_classes]
  walk_at "crunch"
  refine ⟨c, fs, rfl, hc, ?_⟩
  simp only [dSeq, dNext, dIf, dOrT, dAndT, dNotT, dBl, kBl, dTru, kTru, DL.truD, dOp, dCl, s1, s2, dCons, dNil, dVar, dMov, dC, kLenN, peek, lenW, noDict, lenD, sCmp, sOrd, sEq, kEq, sIn, sIsN, nonW, sInt, sAdd, sMul, sRows, rowD, flat, dsOf, seqW, dRet, dRetN, dDrop, dBrk, dCnt, dAsg, gN, gTp, gsCons, gsNil, DL.gSub, setW, useW, useWs, useD, nosto, nostos, fz, fzs, dCall, dCall0, argsD, argD, dLst, dTup, dIte, dAnd, dOr, dNot, dNeg, dBm, isTy, mApp, sIx, kItem, rowOf, dSl, kSl, dNo, dSo, kInt, kStr, kRepr, kListOf, kIsi, tyN, dFor, dRow, dRng1, dRng2, dComp, wipeE, dYes, dJoin, dJs, dFmt, kFmt, pkS, kI2, kAbs, okq, eqv, okqs, eqvs, kCat, dsOf_map, nostos_d, fzs_d, dChn, dRaise0, dRaise, dTryAs, dCallH, kIsX, dXf, kXf, dChN, dChT, dLinks, dBits, dIxMv, subX_ce, isExn, suE, dropX, dropO, keepX, nox, noxs, List.map_cons, List.map_nil, List.any_cons, List.any_nil, List.getElem?_cons_zero, List.getElem?_cons_succ, List.set_cons_zero, List.set_cons_succ, List.length_cons, List.length_nil, Option.bind_some, Option.map_some, if_true, if_false, Bool.false_eq_true, decide_eq_true_eq, true_and, List.length_map, Bool.not_true, Bool.not_false, Bool.not_eq_true', decide_eq_false_iff_not, Bool.false_bne, eq_self, beq_self_eq_true, Bool.true_bne, ite_self, reduceCtorEq, clear, clears, flatL, useWs, retE, Bool.and_self]
  walk_at "crunch"
  exact ⟨_, rfl, hk⟩

end Lk25

open PySem DL
namespace Lk25
theorem p__law_right : ∀ ws k kx, ws.length = 3 → S__law_right ws k kx → t__law_right (retE k) (fun x _ => kx x) (startE N__law_right ws) := by
  rintro ws k kx - ⟨ps, lo, hi, rfl, hc, hk⟩
  rw [se__law_right]
  simp only [t__law_right, t__law_right_0_0, dSeq, dNext, dIf, dOrT, dAndT, dNotT, dBl, kBl, dTru, kTru, DL.truD, dOp, dCl, s1, s2, dCons, dNil, dVar, dMov, dC, kLenN, peek, lenW, noDict, lenD, sCmp, sOrd, sEq, kEq, sIn, sIsN, nonW, sInt, sAdd, sMul, sRows, rowD, flat, dsOf, seqW, dRet, dRetN, dDrop, dBrk, dCnt, dAsg, gN, gTp, gsCons, gsNil, DL.gSub, setW, useW, useWs, useD, nosto, nostos, fz, fzs, dCall, dCall0, argsD, argD, dLst, dTup, dIte, dAnd, dOr, dNot, dNeg, dBm, isTy, mApp, sIx, kItem, rowOf, dSl, kSl, dNo, dSo, kInt, kStr, kRepr, kListOf, kIsi, tyN, dFor, dRow, dRng1, dRng2, dComp, wipeE, dYes, dJoin, dJs, dFmt, kFmt, pkS, kI2, kAbs, okq, eqv, okqs, eqvs, kCat, dsOf_map, nostos_d, fzs_d, dChn, dRaise0, dRaise, dTryAs, dCallH, kIsX, dXf, kXf, dChN, dChT, dLinks, dBits, dIxMv, subX_ce, isExn, suE, dropX, dropO, keepX, nox, noxs, List.map_cons, List.map_nil, List.any_cons, List.any_nil, List.getElem?_cons_zero, List.getElem?_cons_succ, List.set_cons_zero, List.set_cons_succ, List.length_cons, List.length_nil, Option.bind_some, Option.map_some, if_true, if_false, Bool.false_eq_true, decide_eq_true_eq, true_and, List.length_map, Bool.not_true, Bool.not_false, Bool.not_eq_true', decide_eq_false_iff_not, Bool.false_bne, eq_self, beq_self_eq_true, Bool.true_bne, ite_self, reduceCtorEq, kb_ll, kb_lt, kb_ld, kb_tl, kb_tt, kb_td, kb_nl, kb_nt, kb_nd, kb_nb, kb_ni, kb_ns, kb_bl, kb_bt, kb_bd, kb_bb, kb_bi, kb_bs, kb_il, kb_it, kb_id, kb_ib, kb_ii, kb_is, kb_sl, kb_st, kb_sd, kb_sb, kb_si, kb_ss, kb_tb, kb_ti, kb_ts, kb_lb, kb_li, kb_ls, a6_0, a6_1, a6_2, a6_3, a6_4, a6_5, a4_0, a4_1, a4_2, a4_3, a3_0, a3_1, a3_2, a2_0, a2_1, a1_0, tAns]
  walk_at "crunch"
  all_goals first | (exfalso; simp_all; done) | skip
  simp only [t__law_right_0_1, t__law_right_0_2, dSeq, dNext, dIf, dOrT, dAndT, dNotT, dBl, kBl, dTru, kTru, DL.truD, dOp, dCl, s1, s2, dCons, dNil, dVar, dMov, dC, kLenN, peek, lenW, noDict, lenD, sCmp, sOrd, sEq, kEq, sIn, sIsN, nonW, sInt, sAdd, sMul, sRows, rowD, flat, dsOf, seqW, dRet, dRetN, dDrop, dBrk, dCnt, dAsg, gN, gTp, gsCons, gsNil, DL.gSub, setW, useW, useWs, useD, nosto, nostos, fz, fzs, dCall, dCall0, argsD, argD, dLst, dTup, dIte, dAnd, dOr, dNot, dNeg, dBm, isTy, mApp, sIx, kItem, rowOf, dSl, kSl, dNo, dSo, kInt, kStr, kRepr, kListOf, kIsi, tyN, dFor, dRow, dRng1, dRng2, dComp, wipeE, dYes, dJoin, dJs, dFmt, kFmt, pkS, kI2, kAbs, okq, eqv, okqs, eqvs, kCat, dsOf_map, nostos_d, fzs_d, dChn, dRaise0, dRaise, dTryAs, dCallH, kIsX, dXf, kXf, dChN, dChT, dLinks, dBits, dIxMv, subX_ce, isExn, suE, dropX, dropO, keepX, nox, noxs, List.map_cons, List.map_nil, List.any_cons, List.any_nil, List.getElem?_cons_zero, List.getElem?_cons_succ, List.set_cons_zero, List.set_cons_succ, List.length_cons, List.length_nil, Option.bind_some, Option.map_some, if_true, if_false, Bool.false_eq_true, decide_eq_true_eq, true_and, List.length_map, Bool.not_true, Bool.not_false, Bool.not_eq_true', decide_eq_false_iff_not, Bool.false_bne, eq_self, beq_self_eq_true, Bool.true_bne, ite_self, reduceCtorEq, a6_0, a6_1, a6_2, a6_3, a6_4, a6_5, a4_0, a4_1, a4_2, a4_3, a3_0, a3_1, a3_2, a2_0, a2_1, a1_0]
  refine ⟨by decide, ?_⟩
  refine forL_ind (fun r env => ∃ (pl : Int) (l : List (Int × Int)) (o4 o5 o6 : Option W), env = [some (.d (.lst [.str tAns, .lst (ps.map spanD)])), some (.d (.int lo)), some (.d (.int hi)), some (.d (.int pl)), o4, o5, o6] ∧ r = (l.map spanD).map .d ∧ chkL lo hi pl l = true) ?_ ⟨lo, ps, none, none, none, rfl, rfl, hc⟩ ?_
  rotate_left
  · rintro e ⟨pl, l, o4, o5, o6, rfl, hr, h⟩
    have : l = [] := by
      cases l with
      | nil => rfl
      | cons p l => cases hr
    subst this
    have h : decide (pl = hi) = true := h
    have e : (pl == hi) = true := by simpa using h
    simp only [t__law_right_0_3, dSeq, dNext, dIf, dOrT, dAndT, dNotT, dBl, kBl, dTru, kTru, DL.truD, dOp, dCl, s1, s2, dCons, dNil, dVar, dMov, dC, kLenN, peek, lenW, noDict, lenD, sCmp, sOrd, sEq, kEq, sIn, sIsN, nonW, sInt, sAdd, sMul, sRows, rowD, flat, dsOf, seqW, dRet, dRetN, dDrop, dBrk, dCnt, dAsg, gN, gTp, gsCons, gsNil, DL.gSub, setW, useW, useWs, useD, nosto, nostos, fz, fzs, dCall, dCall0, argsD, argD, dLst, dTup, dIte, dAnd, dOr, dNot, dNeg, dBm, isTy, mApp, sIx, kItem, rowOf, dSl, kSl, dNo, dSo, kInt, kStr, kRepr, kListOf, kIsi, tyN, dFor, dRow, dRng1, dRng2, dComp, wipeE, dYes, dJoin, dJs, dFmt, kFmt, pkS, kI2, kAbs, okq, eqv, okqs, eqvs, kCat, dsOf_map, nostos_d, fzs_d, dChn, dRaise0, dRaise, dTryAs, dCallH, kIsX, dXf, kXf, dChN, dChT, dLinks, dBits, dIxMv, subX_ce, isExn, suE, dropX, dropO, keepX, nox, noxs, List.map_cons, List.map_nil, List.any_cons, List.any_nil, List.getElem?_cons_zero, List.getElem?_cons_succ, List.set_cons_zero, List.set_cons_succ, List.length_cons, List.length_nil, Option.bind_some, Option.map_some, if_true, if_false, Bool.false_eq_true, decide_eq_true_eq, true_and, List.length_map, Bool.not_true, Bool.not_false, Bool.not_eq_true', decide_eq_false_iff_not, Bool.false_bne, eq_self, beq_self_eq_true, Bool.true_bne, ite_self, reduceCtorEq, retE, e]
    walk_at "crunch"
    exact ⟨_, rfl, hk⟩
  rintro w r env K ⟨pl, l, o4, o5, o6, rfl, hr, h⟩ hK
  cases l with
  | nil => cases hr
  | cons p l =>
    obtain ⟨a, b⟩ := p
    rw [List.map_cons, List.map_cons] at hr
    obtain ⟨rfl, rfl⟩ := List.cons.inj hr
    have h : (decide (a = pl) && decide (b ≤ hi) && [1, 2, 4, 8, 16].contains (b - a) && decide (pl % (b - a) = 0) && !(decide (lo ≤ pl - pl % (2 * (b - a))) && decide (pl - pl % (2 * (b - a)) + 2 * (b - a) ≤ hi)) && chkL lo hi b l) = true := h
    simp only [Bool.and_eq_true, decide_eq_true_eq, Bool.not_eq_true', Bool.and_eq_false_imp, decide_eq_false_iff_not, List.contains_iff_mem] at h
    obtain ⟨⟨⟨⟨⟨rfl, h2⟩, h3⟩, h4⟩, h5⟩, h6⟩ := h
    have wb : 1 ≤ b - a ∧ b - a ≤ 16 := by
      simp only [List.mem_cons, List.not_mem_nil, or_false] at h3
      omega
    have win : inD (.int (b - a)) [.int 1, .int 2, .int 4, .int 8, .int 16] = true := by
      simp only [List.mem_cons, List.not_mem_nil, or_false] at h3
      rcases h3 with e | e | e | e | e <;> (rw [e]; rfl)
    simp only [t__law_right_1_0, dSeq, dNext, dIf, dOrT, dAndT, dNotT, dBl, kBl, dTru, kTru, DL.truD, dOp, dCl, s1, s2, dCons, dNil, dVar, dMov, dC, kLenN, peek, lenW, noDict, lenD, sCmp, sOrd, sEq, kEq, sIn, sIsN, nonW, sInt, sAdd, sMul, sRows, rowD, flat, dsOf, seqW, dRet, dRetN, dDrop, dBrk, dCnt, dAsg, gN, gTp, gsCons, gsNil, DL.gSub, setW, useW, useWs, useD, nosto, nostos, fz, fzs, dCall, dCall0, argsD, argD, dLst, dTup, dIte, dAnd, dOr, dNot, dNeg, dBm, isTy, mApp, sIx, kItem, rowOf, dSl, kSl, dNo, dSo, kInt, kStr, kRepr, kListOf, kIsi, tyN, dFor, dRow, dRng1, dRng2, dComp, wipeE, dYes, dJoin, dJs, dFmt, kFmt, pkS, kI2, kAbs, okq, eqv, okqs, eqvs, kCat, dsOf_map, nostos_d, fzs_d, dChn, dRaise0, dRaise, dTryAs, dCallH, kIsX, dXf, kXf, dChN, dChT, dLinks, dBits, dIxMv, subX_ce, isExn, suE, dropX, dropO, keepX, nox, noxs, List.map_cons, List.map_nil, List.any_cons, List.any_nil, List.getElem?_cons_zero, List.getElem?_cons_succ, List.set_cons_zero, List.set_cons_succ, List.length_cons, List.length_nil, Option.bind_some, Option.map_some, if_true, if_false, Bool.false_eq_true, decide_eq_true_eq, true_and, List.length_map, Bool.not_true, Bool.not_false, Bool.not_eq_true', decide_eq_false_iff_not, Bool.false_bne, eq_self, beq_self_eq_true, Bool.true_bne, ite_self, reduceCtorEq, kb_ll, kb_lt, kb_ld, kb_tl, kb_tt, kb_td, kb_nl, kb_nt, kb_nd, kb_nb, kb_ni, kb_ns, kb_bl, kb_bt, kb_bd, kb_bb, kb_bi, kb_bs, kb_il, kb_it, kb_id, kb_ib, kb_ii, kb_is, kb_sl, kb_st, kb_sd, kb_sb, kb_si, kb_ss, kb_tb, kb_ti, kb_ts, kb_lb, kb_li, kb_ls, a6_0, a6_1, a6_2, a6_3, a6_4, a6_5, a4_0, a4_1, a4_2, a4_3, a3_0, a3_1, a3_2, a2_0, a2_1, a1_0, spanD, S__law_whole]
    walk_at "crunch"
    all_goals first | (exfalso; simp_all; done) | skip
    refine ⟨a, rfl, ?_⟩
    try simp only [dSeq, dNext, dIf, dOrT, dAndT, dNotT, dBl, kBl, dTru, kTru, DL.truD, dOp, dCl, s1, s2, dCons, dNil, dVar, dMov, dC, kLenN, peek, lenW, noDict, lenD, sCmp, sOrd, sEq, kEq, sIn, sIsN, nonW, sInt, sAdd, sMul, sRows, rowD, flat, dsOf, seqW, dRet, dRetN, dDrop, dBrk, dCnt, dAsg, gN, gTp, gsCons, gsNil, DL.gSub, setW, useW, useWs, useD, nosto, nostos, fz, fzs, dCall, dCall0, argsD, argD, dLst, dTup, dIte, dAnd, dOr, dNot, dNeg, dBm, isTy, mApp, sIx, kItem, rowOf, dSl, kSl, dNo, dSo, kInt, kStr, kRepr, kListOf, kIsi, tyN, dFor, dRow, dRng1, dRng2, dComp, wipeE, dYes, dJoin, dJs, dFmt, kFmt, pkS, kI2, kAbs, okq, eqv, okqs, eqvs, kCat, dsOf_map, nostos_d, fzs_d, dChn, dRaise0, dRaise, dTryAs, dCallH, kIsX, dXf, kXf, dChN, dChT, dLinks, dBits, dIxMv, subX_ce, isExn, suE, dropX, dropO, keepX, nox, noxs, List.map_cons, List.map_nil, List.any_cons, List.any_nil, List.getElem?_cons_zero, List.getElem?_cons_succ, List.set_cons_zero, List.set_cons_succ, List.length_cons, List.length_nil, Option.bind_some, Option.map_some, if_true, if_false, Bool.false_eq_true, decide_eq_true_eq, true_and, List.length_map, Bool.not_true, Bool.not_false, Bool.not_eq_true', decide_eq_false_iff_not, Bool.false_bne, eq_self, beq_self_eq_true, Bool.true_bne, ite_self, reduceCtorEq, clear, flatL, a6_0, a6_1, a6_2, a6_3, a6_4, a6_5, a4_0, a4_1, a4_2, a4_3, a3_0, a3_1, a3_2, a2_0, a2_1, a1_0, S__law_whole]
    walk_at "crunch"
    refine ⟨b, rfl, ?_⟩
    try simp only [dSeq, dNext, dIf, dOrT, dAndT, dNotT, dBl, kBl, dTru, kTru, DL.truD, dOp, dCl, s1, s2, dCons, dNil, dVar, dMov, dC, kLenN, peek, lenW, noDict, lenD, sCmp, sOrd, sEq, kEq, sIn, sIsN, nonW, sInt, sAdd, sMul, sRows, rowD, flat, dsOf, seqW, dRet, dRetN, dDrop, dBrk, dCnt, dAsg, gN, gTp, gsCons, gsNil, DL.gSub, setW, useW, useWs, useD, nosto, nostos, fz, fzs, dCall, dCall0, argsD, argD, dLst, dTup, dIte, dAnd, dOr, dNot, dNeg, dBm, isTy, mApp, sIx, kItem, rowOf, dSl, kSl, dNo, dSo, kInt, kStr, kRepr, kListOf, kIsi, tyN, dFor, dRow, dRng1, dRng2, dComp, wipeE, dYes, dJoin, dJs, dFmt, kFmt, pkS, kI2, kAbs, okq, eqv, okqs, eqvs, kCat, dsOf_map, nostos_d, fzs_d, dChn, dRaise0, dRaise, dTryAs, dCallH, kIsX, dXf, kXf, dChN, dChT, dLinks, dBits, dIxMv, subX_ce, isExn, suE, dropX, dropO, keepX, nox, noxs, List.map_cons, List.map_nil, List.any_cons, List.any_nil, List.getElem?_cons_zero, List.getElem?_cons_succ, List.set_cons_zero, List.set_cons_succ, List.length_cons, List.length_nil, Option.bind_some, Option.map_some, if_true, if_false, Bool.false_eq_true, decide_eq_true_eq, true_and, List.length_map, Bool.not_true, Bool.not_false, Bool.not_eq_true', decide_eq_false_iff_not, Bool.false_bne, eq_self, beq_self_eq_true, Bool.true_bne, ite_self, reduceCtorEq, clear, flatL, a6_0, a6_1, a6_2, a6_3, a6_4, a6_5, a4_0, a4_1, a4_2, a4_3, a3_0, a3_1, a3_2, a2_0, a2_1, a1_0]
    walk_at "crunch"
    simp only [t__law_right_1_1, t__law_right_1_2, dSeq, dNext, dIf, dOrT, dAndT, dNotT, dBl, kBl, dTru, kTru, DL.truD, dOp, dCl, s1, s2, dCons, dNil, dVar, dMov, dC, kLenN, peek, lenW, noDict, lenD, sCmp, sOrd, sEq, kEq, sIn, sIsN, nonW, sInt, sAdd, sMul, sRows, rowD, flat, dsOf, seqW, dRet, dRetN, dDrop, dBrk, dCnt, dAsg, gN, gTp, gsCons, gsNil, DL.gSub, setW, useW, useWs, useD, nosto, nostos, fz, fzs, dCall, dCall0, argsD, argD, dLst, dTup, dIte, dAnd, dOr, dNot, dNeg, dBm, isTy, mApp, sIx, kItem, rowOf, dSl, kSl, dNo, dSo, kInt, kStr, kRepr, kListOf, kIsi, tyN, dFor, dRow, dRng1, dRng2, dComp, wipeE, dYes, dJoin, dJs, dFmt, kFmt, pkS, kI2, kAbs, okq, eqv, okqs, eqvs, kCat, dsOf_map, nostos_d, fzs_d, dChn, dRaise0, dRaise, dTryAs, dCallH, kIsX, dXf, kXf, dChN, dChT, dLinks, dBits, dIxMv, subX_ce, isExn, suE, dropX, dropO, keepX, nox, noxs, List.map_cons, List.map_nil, List.any_cons, List.any_nil, List.getElem?_cons_zero, List.getElem?_cons_succ, List.set_cons_zero, List.set_cons_succ, List.length_cons, List.length_nil, Option.bind_some, Option.map_some, if_true, if_false, Bool.false_eq_true, decide_eq_true_eq, true_and, List.length_map, Bool.not_true, Bool.not_false, Bool.not_eq_true', decide_eq_false_iff_not, Bool.false_bne, eq_self, beq_self_eq_true, Bool.true_bne, ite_self, reduceCtorEq, a6_0, a6_1, a6_2, a6_3, a6_4, a6_5, a4_0, a4_1, a4_2, a4_3, a3_0, a3_1, a3_2, a2_0, a2_1, a1_0, useWs, flatD, List.all_cons, List.all_nil, win]
    walk_at "crunch"
    all_goals first | (exfalso; simp_all; done) | (exfalso; omega) | skip
    simp only [t__law_right_1_3, dSeq, dNext, dIf, dOrT, dAndT, dNotT, dBl, kBl, dTru, kTru, DL.truD, dOp, dCl, s1, s2, dCons, dNil, dVar, dMov, dC, kLenN, peek, lenW, noDict, lenD, sCmp, sOrd, sEq, kEq, sIn, sIsN, nonW, sInt, sAdd, sMul, sRows, rowD, flat, dsOf, seqW, dRet, dRetN, dDrop, dBrk, dCnt, dAsg, gN, gTp, gsCons, gsNil, DL.gSub, setW, useW, useWs, useD, nosto, nostos, fz, fzs, dCall, dCall0, argsD, argD, dLst, dTup, dIte, dAnd, dOr, dNot, dNeg, dBm, isTy, mApp, sIx, kItem, rowOf, dSl, kSl, dNo, dSo, kInt, kStr, kRepr, kListOf, kIsi, tyN, dFor, dRow, dRng1, dRng2, dComp, wipeE, dYes, dJoin, dJs, dFmt, kFmt, pkS, kI2, kAbs, okq, eqv, okqs, eqvs, kCat, dsOf_map, nostos_d, fzs_d, dChn, dRaise0, dRaise, dTryAs, dCallH, kIsX, dXf, kXf, dChN, dChT, dLinks, dBits, dIxMv, subX_ce, isExn, suE, dropX, dropO, keepX, nox, noxs, List.map_cons, List.map_nil, List.any_cons, List.any_nil, List.getElem?_cons_zero, List.getElem?_cons_succ, List.set_cons_zero, List.set_cons_succ, List.length_cons, List.length_nil, Option.bind_some, Option.map_some, if_true, if_false, Bool.false_eq_true, decide_eq_true_eq, true_and, List.length_map, Bool.not_true, Bool.not_false, Bool.not_eq_true', decide_eq_false_iff_not, Bool.false_bne, eq_self, beq_self_eq_true, Bool.true_bne, ite_self, reduceCtorEq]
    walk_at "crunch"
    simp only [t__law_right_1_4, dSeq, dNext, dIf, dOrT, dAndT, dNotT, dBl, kBl, dTru, kTru, DL.truD, dOp, dCl, s1, s2, dCons, dNil, dVar, dMov, dC, kLenN, peek, lenW, noDict, lenD, sCmp, sOrd, sEq, kEq, sIn, sIsN, nonW, sInt, sAdd, sMul, sRows, rowD, flat, dsOf, seqW, dRet, dRetN, dDrop, dBrk, dCnt, dAsg, gN, gTp, gsCons, gsNil, DL.gSub, setW, useW, useWs, useD, nosto, nostos, fz, fzs, dCall, dCall0, argsD, argD, dLst, dTup, dIte, dAnd, dOr, dNot, dNeg, dBm, isTy, mApp, sIx, kItem, rowOf, dSl, kSl, dNo, dSo, kInt, kStr, kRepr, kListOf, kIsi, tyN, dFor, dRow, dRng1, dRng2, dComp, wipeE, dYes, dJoin, dJs, dFmt, kFmt, pkS, kI2, kAbs, okq, eqv, okqs, eqvs, kCat, dsOf_map, nostos_d, fzs_d, dChn, dRaise0, dRaise, dTryAs, dCallH, kIsX, dXf, kXf, dChN, dChT, dLinks, dBits, dIxMv, subX_ce, isExn, suE, dropX, dropO, keepX, nox, noxs, List.map_cons, List.map_nil, List.any_cons, List.any_nil, List.getElem?_cons_zero, List.getElem?_cons_succ, List.set_cons_zero, List.set_cons_succ, List.length_cons, List.length_nil, Option.bind_some, Option.map_some, if_true, if_false, Bool.false_eq_true, decide_eq_true_eq, true_and, List.length_map, Bool.not_true, Bool.not_false, Bool.not_eq_true', decide_eq_false_iff_not, Bool.false_bne, eq_self, beq_self_eq_true, Bool.true_bne, ite_self, reduceCtorEq]
    walk_at "crunch"
    all_goals first | (exfalso; omega) | skip
    all_goals
      simp only [t__law_right_1_5, dSeq, dNext, dIf, dOrT, dAndT, dNotT, dBl, kBl, dTru, kTru, DL.truD, dOp, dCl, s1, s2, dCons, dNil, dVar, dMov, dC, kLenN, peek, lenW, noDict, lenD, sCmp, sOrd, sEq, kEq, sIn, sIsN, nonW, sInt, sAdd, sMul, sRows, rowD, flat, dsOf, seqW, dRet, dRetN, dDrop, dBrk, dCnt, dAsg, gN, gTp, gsCons, gsNil, DL.gSub, setW, useW, useWs, useD, nosto, nostos, fz, fzs, dCall, dCall0, argsD, argD, dLst, dTup, dIte, dAnd, dOr, dNot, dNeg, dBm, isTy, mApp, sIx, kItem, rowOf, dSl, kSl, dNo, dSo, kInt, kStr, kRepr, kListOf, kIsi, tyN, dFor, dRow, dRng1, dRng2, dComp, wipeE, dYes, dJoin, dJs, dFmt, kFmt, pkS, kI2, kAbs, okq, eqv, okqs, eqvs, kCat, dsOf_map, nostos_d, fzs_d, dChn, dRaise0, dRaise, dTryAs, dCallH, kIsX, dXf, kXf, dChN, dChT, dLinks, dBits, dIxMv, subX_ce, isExn, suE, dropX, dropO, keepX, nox, noxs, List.map_cons, List.map_nil, List.any_cons, List.any_nil, List.getElem?_cons_zero, List.getElem?_cons_succ, List.set_cons_zero, List.set_cons_succ, List.length_cons, List.length_nil, Option.bind_some, Option.map_some, if_true, if_false, Bool.false_eq_true, decide_eq_true_eq, true_and, List.length_map, Bool.not_true, Bool.not_false, Bool.not_eq_true', decide_eq_false_iff_not, Bool.false_bne, eq_self, beq_self_eq_true, Bool.true_bne, ite_self, reduceCtorEq, a6_0, a6_1, a6_2, a6_3, a6_4, a6_5, a4_0, a4_1, a4_2, a4_3, a3_0, a3_1, a3_2, a2_0, a2_1, a1_0]
      exact ⟨by decide, hK _ ⟨b, l, _, _, _, rfl, rfl, h6⟩⟩

end Lk25

open PySem DL
namespace Lk25
theorem p__law_answer : ∀ ws k kx, ws.length = 3 → S__law_answer ws k kx → t__law_answer (retE k) (fun x _ => kx x) (startE N__law_answer ws) := by
  rintro ws k kx - ⟨c, lo, hi, rfl, hk⟩
  rw [se__law_answer]
  simp only [t__law_answer, t__law_answer_0_0, t__law_answer_1_0, dSeq, dNext, dIf, dOrT, dAndT, dNotT, dBl, kBl, dTru, kTru, DL.truD, dOp, dCl, s1, s2, dCons, dNil, dVar, dMov, dC, kLenN, peek, lenW, noDict, lenD, sCmp, sOrd, sEq, kEq, sIn, sIsN, nonW, sInt, sAdd, sMul, sRows, rowD, flat, dsOf, seqW, dRet, dRetN, dDrop, dBrk, dCnt, dAsg, gN, gTp, gsCons, gsNil, DL.gSub, setW, useW, useWs, useD, nosto, nostos, fz, fzs, dCall, dCall0, argsD, argD, dLst, dTup, dIte, dAnd, dOr, dNot, dNeg, dBm, isTy, mApp, sIx, kItem, rowOf, dSl, kSl, dNo, dSo, kInt, kStr, kRepr, kListOf, kIsi, tyN, dFor, dRow, dRng1, dRng2, dComp, wipeE, dYes, dJoin, dJs, dFmt, kFmt, pkS, kI2, kAbs, okq, eqv, okqs, eqvs, kCat, dsOf_map, nostos_d, fzs_d, dChn, dRaise0, dRaise, dTryAs, dCallH, kIsX, dXf, kXf, dChN, dChT, dLinks, dBits, dIxMv, subX_ce, isExn, suE, dropX, dropO, keepX, nox, noxs, List.map_cons, List.map_nil, List.any_cons, List.any_nil, List.getElem?_cons_zero, List.getElem?_cons_succ, List.set_cons_zero, List.set_cons_succ, List.length_cons, List.length_nil, Option.bind_some, Option.map_some, if_true, if_false, Bool.false_eq_true, decide_eq_true_eq, true_and, List.length_map, Bool.not_true, Bool.not_false, Bool.not_eq_true', decide_eq_false_iff_not, Bool.false_bne, eq_self, beq_self_eq_true, Bool.true_bne, ite_self, reduceCtorEq, S_aligned_spans]
  refine ⟨c, lo, hi, rfl, ?_⟩
  by_cases hv : 0 ≤ lo ∧ lo < hi ∧ hi ≤ c ∧ c ≤ 16
  · rw [if_pos hv] at hk ⊢
    simp only [dSeq, dNext, dIf, dOrT, dAndT, dNotT, dBl, kBl, dTru, kTru, DL.truD, dOp, dCl, s1, s2, dCons, dNil, dVar, dMov, dC, kLenN, peek, lenW, noDict, lenD, sCmp, sOrd, sEq, kEq, sIn, sIsN, nonW, sInt, sAdd, sMul, sRows, rowD, flat, dsOf, seqW, dRet, dRetN, dDrop, dBrk, dCnt, dAsg, gN, gTp, gsCons, gsNil, DL.gSub, setW, useW, useWs, useD, nosto, nostos, fz, fzs, dCall, dCall0, argsD, argD, dLst, dTup, dIte, dAnd, dOr, dNot, dNeg, dBm, isTy, mApp, sIx, kItem, rowOf, dSl, kSl, dNo, dSo, kInt, kStr, kRepr, kListOf, kIsi, tyN, dFor, dRow, dRng1, dRng2, dComp, wipeE, dYes, dJoin, dJs, dFmt, kFmt, pkS, kI2, kAbs, okq, eqv, okqs, eqvs, kCat, dsOf_map, nostos_d, fzs_d, dChn, dRaise0, dRaise, dTryAs, dCallH, kIsX, dXf, kXf, dChN, dChT, dLinks, dBits, dIxMv, subX_ce, isExn, suE, dropX, dropO, keepX, nox, noxs, List.map_cons, List.map_nil, List.any_cons, List.any_nil, List.getElem?_cons_zero, List.getElem?_cons_succ, List.set_cons_zero, List.set_cons_succ, List.length_cons, List.length_nil, Option.bind_some, Option.map_some, if_true, if_false, Bool.false_eq_true, decide_eq_true_eq, true_and, List.length_map, Bool.not_true, Bool.not_false, Bool.not_eq_true', decide_eq_false_iff_not, Bool.false_bne, eq_self, beq_self_eq_true, Bool.true_bne, ite_self, reduceCtorEq, clear, clears_map2 clear_span, nostos_map2 nosto_span, useWs, retE]
    walk_at "crunch"
    exact ⟨_, rfl, hk⟩
  · rw [if_neg hv] at hk ⊢
    simp only [t__law_answer_2_0, dSeq, dNext, dIf, dOrT, dAndT, dNotT, dBl, kBl, dTru, kTru, DL.truD, dOp, dCl, s1, s2, dCons, dNil, dVar, dMov, dC, kLenN, peek, lenW, noDict, lenD, sCmp, sOrd, sEq, kEq, sIn, sIsN, nonW, sInt, sAdd, sMul, sRows, rowD, flat, dsOf, seqW, dRet, dRetN, dDrop, dBrk, dCnt, dAsg, gN, gTp, gsCons, gsNil, DL.gSub, setW, useW, useWs, useD, nosto, nostos, fz, fzs, dCall, dCall0, argsD, argD, dLst, dTup, dIte, dAnd, dOr, dNot, dNeg, dBm, isTy, mApp, sIx, kItem, rowOf, dSl, kSl, dNo, dSo, kInt, kStr, kRepr, kListOf, kIsi, tyN, dFor, dRow, dRng1, dRng2, dComp, wipeE, dYes, dJoin, dJs, dFmt, kFmt, pkS, kI2, kAbs, okq, eqv, okqs, eqvs, kCat, dsOf_map, nostos_d, fzs_d, dChn, dRaise0, dRaise, dTryAs, dCallH, kIsX, dXf, kXf, dChN, dChT, dLinks, dBits, dIxMv, subX_ce, isExn, suE, dropX, dropO, keepX, nox, noxs, List.map_cons, List.map_nil, List.any_cons, List.any_nil, List.getElem?_cons_zero, List.getElem?_cons_succ, List.set_cons_zero, List.set_cons_succ, List.length_cons, List.length_nil, Option.bind_some, Option.map_some, if_true, if_false, Bool.false_eq_true, decide_eq_true_eq, true_and, List.length_map, Bool.not_true, Bool.not_false, Bool.not_eq_true', decide_eq_false_iff_not, Bool.false_bne, eq_self, beq_self_eq_true, Bool.true_bne, ite_self, reduceCtorEq, S__law_caught]
    refine ⟨by decide, rfl, "BadNumber", [], rfl, by decide +kernel, ?_⟩
    simp only [dSeq, dNext, dIf, dOrT, dAndT, dNotT, dBl, kBl, dTru, kTru, DL.truD, dOp, dCl, s1, s2, dCons, dNil, dVar, dMov, dC, kLenN, peek, lenW, noDict, lenD, sCmp, sOrd, sEq, kEq, sIn, sIsN, nonW, sInt, sAdd, sMul, sRows, rowD, flat, dsOf, seqW, dRet, dRetN, dDrop, dBrk, dCnt, dAsg, gN, gTp, gsCons, gsNil, DL.gSub, setW, useW, useWs, useD, nosto, nostos, fz, fzs, dCall, dCall0, argsD, argD, dLst, dTup, dIte, dAnd, dOr, dNot, dNeg, dBm, isTy, mApp, sIx, kItem, rowOf, dSl, kSl, dNo, dSo, kInt, kStr, kRepr, kListOf, kIsi, tyN, dFor, dRow, dRng1, dRng2, dComp, wipeE, dYes, dJoin, dJs, dFmt, kFmt, pkS, kI2, kAbs, okq, eqv, okqs, eqvs, kCat, dsOf_map, nostos_d, fzs_d, dChn, dRaise0, dRaise, dTryAs, dCallH, kIsX, dXf, kXf, dChN, dChT, dLinks, dBits, dIxMv, subX_ce, isExn, suE, dropX, dropO, keepX, nox, noxs, List.map_cons, List.map_nil, List.any_cons, List.any_nil, List.getElem?_cons_zero, List.getElem?_cons_succ, List.set_cons_zero, List.set_cons_succ, List.length_cons, List.length_nil, Option.bind_some, Option.map_some, if_true, if_false, Bool.false_eq_true, decide_eq_true_eq, true_and, List.length_map, Bool.not_true, Bool.not_false, Bool.not_eq_true', decide_eq_false_iff_not, Bool.false_bne, eq_self, beq_self_eq_true, Bool.true_bne, ite_self, reduceCtorEq, caughtW, retE]
    exact ⟨rfl, rfl, _, rfl, hk⟩

end Lk25

open PySem DL
namespace Lk25
theorem p__law_levels : ∀ ws k kx, ws.length = 1 → S__law_levels ws k kx → t__law_levels (retE k) (fun x _ => kx x) (startE N__law_levels ws) := by
  rintro ws k kx - ⟨c, rfl, hk⟩
  rw [se__law_levels]
  simp only [t__law_levels, t__law_levels_0_0, t__law_levels_1_0, dSeq, dNext, dIf, dOrT, dAndT, dNotT, dBl, kBl, dTru, kTru, DL.truD, dOp, dCl, s1, s2, dCons, dNil, dVar, dMov, dC, kLenN, peek, lenW, noDict, lenD, sCmp, sOrd, sEq, kEq, sIn, sIsN, nonW, sInt, sAdd, sMul, sRows, rowD, flat, dsOf, seqW, dRet, dRetN, dDrop, dBrk, dCnt, dAsg, gN, gTp, gsCons, gsNil, DL.gSub, setW, useW, useWs, useD, nosto, nostos, fz, fzs, dCall, dCall0, argsD, argD, dLst, dTup, dIte, dAnd, dOr, dNot, dNeg, dBm, isTy, mApp, sIx, kItem, rowOf, dSl, kSl, dNo, dSo, kInt, kStr, kRepr, kListOf, kIsi, tyN, dFor, dRow, dRng1, dRng2, dComp, wipeE, dYes, dJoin, dJs, dFmt, kFmt, pkS, kI2, kAbs, okq, eqv, okqs, eqvs, kCat, dsOf_map, nostos_d, fzs_d, dChn, dRaise0, dRaise, dTryAs, dCallH, kIsX, dXf, kXf, dChN, dChT, dLinks, dBits, dIxMv, subX_ce, isExn, suE, dropX, dropO, keepX, nox, noxs, List.map_cons, List.map_nil, List.any_cons, List.any_nil, List.getElem?_cons_zero, List.getElem?_cons_succ, List.set_cons_zero, List.set_cons_succ, List.length_cons, List.length_nil, Option.bind_some, Option.map_some, if_true, if_false, Bool.false_eq_true, decide_eq_true_eq, true_and, List.length_map, Bool.not_true, Bool.not_false, Bool.not_eq_true', decide_eq_false_iff_not, Bool.false_bne, eq_self, beq_self_eq_true, Bool.true_bne, ite_self, reduceCtorEq, S_levels]
  refine ⟨c, rfl, ?_⟩
  by_cases hv : 1 ≤ c ∧ c ≤ 16
  · rw [if_pos hv] at hk ⊢
    try simp only [dSeq, dNext, dIf, dOrT, dAndT, dNotT, dBl, kBl, dTru, kTru, DL.truD, dOp, dCl, s1, s2, dCons, dNil, dVar, dMov, dC, kLenN, peek, lenW, noDict, lenD, sCmp, sOrd, sEq, kEq, sIn, sIsN, nonW, sInt, sAdd, sMul, sRows, rowD, flat, dsOf, seqW, dRet, dRetN, dDrop, dBrk, dCnt, dAsg, gN, gTp, gsCons, gsNil, DL.gSub, setW, useW, useWs, useD, nosto, nostos, fz, fzs, dCall, dCall0, argsD, argD, dLst, dTup, dIte, dAnd, dOr, dNot, dNeg, dBm, isTy, mApp, sIx, kItem, rowOf, dSl, kSl, dNo, dSo, kInt, kStr, kRepr, kListOf, kIsi, tyN, dFor, dRow, dRng1, dRng2, dComp, wipeE, dYes, dJoin, dJs, dFmt, kFmt, pkS, kI2, kAbs, okq, eqv, okqs, eqvs, kCat, dsOf_map, nostos_d, fzs_d, dChn, dRaise0, dRaise, dTryAs, dCallH, kIsX, dXf, kXf, dChN, dChT, dLinks, dBits, dIxMv, subX_ce, isExn, suE, dropX, dropO, keepX, nox, noxs, List.map_cons, List.map_nil, List.any_cons, List.any_nil, List.getElem?_cons_zero, List.getElem?_cons_succ, List.set_cons_zero, List.set_cons_succ, List.length_cons, List.length_nil, Option.bind_some, Option.map_some, if_true, if_false, Bool.false_eq_true, decide_eq_true_eq, true_and, List.length_map, Bool.not_true, Bool.not_false, Bool.not_eq_true', decide_eq_false_iff_not, Bool.false_bne, eq_self, beq_self_eq_true, Bool.true_bne, ite_self, reduceCtorEq, clear, flatL, useWs, retE]
    walk_at "crunch"
    exact ⟨_, rfl, hk⟩
  · rw [if_neg hv] at hk ⊢
    simp only [t__law_levels_2_0, dSeq, dNext, dIf, dOrT, dAndT, dNotT, dBl, kBl, dTru, kTru, DL.truD, dOp, dCl, s1, s2, dCons, dNil, dVar, dMov, dC, kLenN, peek, lenW, noDict, lenD, sCmp, sOrd, sEq, kEq, sIn, sIsN, nonW, sInt, sAdd, sMul, sRows, rowD, flat, dsOf, seqW, dRet, dRetN, dDrop, dBrk, dCnt, dAsg, gN, gTp, gsCons, gsNil, DL.gSub, setW, useW, useWs, useD, nosto, nostos, fz, fzs, dCall, dCall0, argsD, argD, dLst, dTup, dIte, dAnd, dOr, dNot, dNeg, dBm, isTy, mApp, sIx, kItem, rowOf, dSl, kSl, dNo, dSo, kInt, kStr, kRepr, kListOf, kIsi, tyN, dFor, dRow, dRng1, dRng2, dComp, wipeE, dYes, dJoin, dJs, dFmt, kFmt, pkS, kI2, kAbs, okq, eqv, okqs, eqvs, kCat, dsOf_map, nostos_d, fzs_d, dChn, dRaise0, dRaise, dTryAs, dCallH, kIsX, dXf, kXf, dChN, dChT, dLinks, dBits, dIxMv, subX_ce, isExn, suE, dropX, dropO, keepX, nox, noxs, List.map_cons, List.map_nil, List.any_cons, List.any_nil, List.getElem?_cons_zero, List.getElem?_cons_succ, List.set_cons_zero, List.set_cons_succ, List.length_cons, List.length_nil, Option.bind_some, Option.map_some, if_true, if_false, Bool.false_eq_true, decide_eq_true_eq, true_and, List.length_map, Bool.not_true, Bool.not_false, Bool.not_eq_true', decide_eq_false_iff_not, Bool.false_bne, eq_self, beq_self_eq_true, Bool.true_bne, ite_self, reduceCtorEq, S__law_caught]
    refine ⟨by decide, rfl, "BadNumber", [], rfl, by decide +kernel, ?_⟩
    simp only [dSeq, dNext, dIf, dOrT, dAndT, dNotT, dBl, kBl, dTru, kTru, DL.truD, dOp, dCl, s1, s2, dCons, dNil, dVar, dMov, dC, kLenN, peek, lenW, noDict, lenD, sCmp, sOrd, sEq, kEq, sIn, sIsN, nonW, sInt, sAdd, sMul, sRows, rowD, flat, dsOf, seqW, dRet, dRetN, dDrop, dBrk, dCnt, dAsg, gN, gTp, gsCons, gsNil, DL.gSub, setW, useW, useWs, useD, nosto, nostos, fz, fzs, dCall, dCall0, argsD, argD, dLst, dTup, dIte, dAnd, dOr, dNot, dNeg, dBm, isTy, mApp, sIx, kItem, rowOf, dSl, kSl, dNo, dSo, kInt, kStr, kRepr, kListOf, kIsi, tyN, dFor, dRow, dRng1, dRng2, dComp, wipeE, dYes, dJoin, dJs, dFmt, kFmt, pkS, kI2, kAbs, okq, eqv, okqs, eqvs, kCat, dsOf_map, nostos_d, fzs_d, dChn, dRaise0, dRaise, dTryAs, dCallH, kIsX, dXf, kXf, dChN, dChT, dLinks, dBits, dIxMv, subX_ce, isExn, suE, dropX, dropO, keepX, nox, noxs, List.map_cons, List.map_nil, List.any_cons, List.any_nil, List.getElem?_cons_zero, List.getElem?_cons_succ, List.set_cons_zero, List.set_cons_succ, List.length_cons, List.length_nil, Option.bind_some, Option.map_some, if_true, if_false, Bool.false_eq_true, decide_eq_true_eq, true_and, List.length_map, Bool.not_true, Bool.not_false, Bool.not_eq_true', decide_eq_false_iff_not, Bool.false_bne, eq_self, beq_self_eq_true, Bool.true_bne, ite_self, reduceCtorEq, caughtW, retE]
    exact ⟨rfl, rfl, _, rfl, hk⟩

end Lk25

open PySem DL
namespace Lk25
theorem ix3 {i : Int} (h0 : 0 ≤ i) (h1 : i < 3) : ∃ j : Nat, j < 3 ∧ L2.ixN (0 + 1 + 1 + 1) i = some j := by
  obtain ⟨n, rfl⟩ : ∃ n : Nat, i = n := ⟨i.toNat, by omega⟩
  match n, (show n < 3 by omega) with
  | 0, _ => exact ⟨0, by decide, rfl⟩
  | 1, _ => exact ⟨1, by decide, rfl⟩
  | 2, _ => exact ⟨2, by decide, rfl⟩
def l3 (a b c : Int) : List W := [.d (.int a), .d (.int b), .d (.int c)]
theorem set3 {a b c v : Int} {j : Nat} (h : j < 3) : ∃ a' b' c', (l3 a b c).set j (.d (.int v)) = l3 a' b' c' := by
  match j, h with
  | 0, _ => exact ⟨v, b, c, rfl⟩
  | 1, _ => exact ⟨a, v, c, rfl⟩
  | 2, _ => exact ⟨a, b, v, rfl⟩
theorem len3 {a b c : Int} : (l3 a b c).length = 0 + 1 + 1 + 1 := rfl
theorem p__law_triple : ∀ ws k kx, ws.length = 2 → S__law_triple ws k kx → t__law_triple (retE k) (fun x _ => kx x) (startE N__law_triple ws) := by
  rintro ws k kx - ⟨c, rfl, c1, c2, hk⟩
  rw [se__law_triple]
  simp only [t__law_triple, t__law_triple_0_0, dSeq, dNext, dIf, dOrT, dAndT, dNotT, dBl, kBl, dTru, kTru, DL.truD, dOp, dCl, s1, s2, dCons, dNil, dVar, dMov, dC, kLenN, peek, lenW, noDict, lenD, sCmp, sOrd, sEq, kEq, sIn, sIsN, nonW, sInt, sAdd, sMul, sRows, rowD, flat, dsOf, seqW, dRet, dRetN, dDrop, dBrk, dCnt, dAsg, gN, gTp, gsCons, gsNil, DL.gSub, setW, useW, useWs, useD, nosto, nostos, fz, fzs, dCall, dCall0, argsD, argD, dLst, dTup, dIte, dAnd, dOr, dNot, dNeg, dBm, isTy, mApp, sIx, kItem, rowOf, dSl, kSl, dNo, dSo, kInt, kStr, kRepr, kListOf, kIsi, tyN, dFor, dRow, dRng1, dRng2, dComp, wipeE, dYes, dJoin, dJs, dFmt, kFmt, pkS, kI2, kAbs, okq, eqv, okqs, eqvs, kCat, dsOf_map, nostos_d, fzs_d, dChn, dRaise0, dRaise, dTryAs, dCallH, kIsX, dXf, kXf, dChN, dChT, dLinks, dBits, dIxMv, subX_ce, isExn, suE, dropX, dropO, keepX, nox, noxs, List.map_cons, List.map_nil, List.any_cons, List.any_nil, List.getElem?_cons_zero, List.getElem?_cons_succ, List.set_cons_zero, List.set_cons_succ, List.length_cons, List.length_nil, Option.bind_some, Option.map_some, if_true, if_false, Bool.false_eq_true, decide_eq_true_eq, true_and, List.length_map, Bool.not_true, Bool.not_false, Bool.not_eq_true', decide_eq_false_iff_not, Bool.false_bne, eq_self, beq_self_eq_true, Bool.true_bne, ite_self, reduceCtorEq, S__law_take, S_take]
  refine ⟨_, rfl, c1, by omega, fun lo l0 l1 => ?_⟩
  try simp only [dSeq, dNext, dIf, dOrT, dAndT, dNotT, dBl, kBl, dTru, kTru, DL.truD, dOp, dCl, s1, s2, dCons, dNil, dVar, dMov, dC, kLenN, peek, lenW, noDict, lenD, sCmp, sOrd, sEq, kEq, sIn, sIsN, nonW, sInt, sAdd, sMul, sRows, rowD, flat, dsOf, seqW, dRet, dRetN, dDrop, dBrk, dCnt, dAsg, gN, gTp, gsCons, gsNil, DL.gSub, setW, useW, useWs, useD, nosto, nostos, fz, fzs, dCall, dCall0, argsD, argD, dLst, dTup, dIte, dAnd, dOr, dNot, dNeg, dBm, isTy, mApp, sIx, kItem, rowOf, dSl, kSl, dNo, dSo, kInt, kStr, kRepr, kListOf, kIsi, tyN, dFor, dRow, dRng1, dRng2, dComp, wipeE, dYes, dJoin, dJs, dFmt, kFmt, pkS, kI2, kAbs, okq, eqv, okqs, eqvs, kCat, dsOf_map, nostos_d, fzs_d, dChn, dRaise0, dRaise, dTryAs, dCallH, kIsX, dXf, kXf, dChN, dChT, dLinks, dBits, dIxMv, subX_ce, isExn, suE, dropX, dropO, keepX, nox, noxs, List.map_cons, List.map_nil, List.any_cons, List.any_nil, List.getElem?_cons_zero, List.getElem?_cons_succ, List.set_cons_zero, List.set_cons_succ, List.length_cons, List.length_nil, Option.bind_some, Option.map_some, if_true, if_false, Bool.false_eq_true, decide_eq_true_eq, true_and, List.length_map, Bool.not_true, Bool.not_false, Bool.not_eq_true', decide_eq_false_iff_not, Bool.false_bne, eq_self, beq_self_eq_true, Bool.true_bne, ite_self, reduceCtorEq, clear, flatL]
  walk_at "crunch"
  simp only [t__law_triple_0_1, dSeq, dNext, dIf, dOrT, dAndT, dNotT, dBl, kBl, dTru, kTru, DL.truD, dOp, dCl, s1, s2, dCons, dNil, dVar, dMov, dC, kLenN, peek, lenW, noDict, lenD, sCmp, sOrd, sEq, kEq, sIn, sIsN, nonW, sInt, sAdd, sMul, sRows, rowD, flat, dsOf, seqW, dRet, dRetN, dDrop, dBrk, dCnt, dAsg, gN, gTp, gsCons, gsNil, DL.gSub, setW, useW, useWs, useD, nosto, nostos, fz, fzs, dCall, dCall0, argsD, argD, dLst, dTup, dIte, dAnd, dOr, dNot, dNeg, dBm, isTy, mApp, sIx, kItem, rowOf, dSl, kSl, dNo, dSo, kInt, kStr, kRepr, kListOf, kIsi, tyN, dFor, dRow, dRng1, dRng2, dComp, wipeE, dYes, dJoin, dJs, dFmt, kFmt, pkS, kI2, kAbs, okq, eqv, okqs, eqvs, kCat, dsOf_map, nostos_d, fzs_d, dChn, dRaise0, dRaise, dTryAs, dCallH, kIsX, dXf, kXf, dChN, dChT, dLinks, dBits, dIxMv, subX_ce, isExn, suE, dropX, dropO, keepX, nox, noxs, List.map_cons, List.map_nil, List.any_cons, List.any_nil, List.getElem?_cons_zero, List.getElem?_cons_succ, List.set_cons_zero, List.set_cons_succ, List.length_cons, List.length_nil, Option.bind_some, Option.map_some, if_true, if_false, Bool.false_eq_true, decide_eq_true_eq, true_and, List.length_map, Bool.not_true, Bool.not_false, Bool.not_eq_true', decide_eq_false_iff_not, Bool.false_bne, eq_self, beq_self_eq_true, Bool.true_bne, ite_self, reduceCtorEq, S__law_take, S_take]
  refine ⟨_, rfl, by omega, by omega, fun hi h0 h1 => ?_⟩
  try simp only [dSeq, dNext, dIf, dOrT, dAndT, dNotT, dBl, kBl, dTru, kTru, DL.truD, dOp, dCl, s1, s2, dCons, dNil, dVar, dMov, dC, kLenN, peek, lenW, noDict, lenD, sCmp, sOrd, sEq, kEq, sIn, sIsN, nonW, sInt, sAdd, sMul, sRows, rowD, flat, dsOf, seqW, dRet, dRetN, dDrop, dBrk, dCnt, dAsg, gN, gTp, gsCons, gsNil, DL.gSub, setW, useW, useWs, useD, nosto, nostos, fz, fzs, dCall, dCall0, argsD, argD, dLst, dTup, dIte, dAnd, dOr, dNot, dNeg, dBm, isTy, mApp, sIx, kItem, rowOf, dSl, kSl, dNo, dSo, kInt, kStr, kRepr, kListOf, kIsi, tyN, dFor, dRow, dRng1, dRng2, dComp, wipeE, dYes, dJoin, dJs, dFmt, kFmt, pkS, kI2, kAbs, okq, eqv, okqs, eqvs, kCat, dsOf_map, nostos_d, fzs_d, dChn, dRaise0, dRaise, dTryAs, dCallH, kIsX, dXf, kXf, dChN, dChT, dLinks, dBits, dIxMv, subX_ce, isExn, suE, dropX, dropO, keepX, nox, noxs, List.map_cons, List.map_nil, List.any_cons, List.any_nil, List.getElem?_cons_zero, List.getElem?_cons_succ, List.set_cons_zero, List.set_cons_succ, List.length_cons, List.length_nil, Option.bind_some, Option.map_some, if_true, if_false, Bool.false_eq_true, decide_eq_true_eq, true_and, List.length_map, Bool.not_true, Bool.not_false, Bool.not_eq_true', decide_eq_false_iff_not, Bool.false_bne, eq_self, beq_self_eq_true, Bool.true_bne, ite_self, reduceCtorEq, clear, flatL]
  walk_at "crunch"
  simp only [t__law_triple_0_2, dSeq, dNext, dIf, dOrT, dAndT, dNotT, dBl, kBl, dTru, kTru, DL.truD, dOp, dCl, s1, s2, dCons, dNil, dVar, dMov, dC, kLenN, peek, lenW, noDict, lenD, sCmp, sOrd, sEq, kEq, sIn, sIsN, nonW, sInt, sAdd, sMul, sRows, rowD, flat, dsOf, seqW, dRet, dRetN, dDrop, dBrk, dCnt, dAsg, gN, gTp, gsCons, gsNil, DL.gSub, setW, useW, useWs, useD, nosto, nostos, fz, fzs, dCall, dCall0, argsD, argD, dLst, dTup, dIte, dAnd, dOr, dNot, dNeg, dBm, isTy, mApp, sIx, kItem, rowOf, dSl, kSl, dNo, dSo, kInt, kStr, kRepr, kListOf, kIsi, tyN, dFor, dRow, dRng1, dRng2, dComp, wipeE, dYes, dJoin, dJs, dFmt, kFmt, pkS, kI2, kAbs, okq, eqv, okqs, eqvs, kCat, dsOf_map, nostos_d, fzs_d, dChn, dRaise0, dRaise, dTryAs, dCallH, kIsX, dXf, kXf, dChN, dChT, dLinks, dBits, dIxMv, subX_ce, isExn, suE, dropX, dropO, keepX, nox, noxs, List.map_cons, List.map_nil, List.any_cons, List.any_nil, List.getElem?_cons_zero, List.getElem?_cons_succ, List.set_cons_zero, List.set_cons_succ, List.length_cons, List.length_nil, Option.bind_some, Option.map_some, if_true, if_false, Bool.false_eq_true, decide_eq_true_eq, true_and, List.length_map, Bool.not_true, Bool.not_false, Bool.not_eq_true', decide_eq_false_iff_not, Bool.false_bne, eq_self, beq_self_eq_true, Bool.true_bne, ite_self, reduceCtorEq, S__law_take, S_take]
  refine ⟨_, rfl, by omega, by omega, fun ch h0 h1 => ?_⟩
  try simp only [dSeq, dNext, dIf, dOrT, dAndT, dNotT, dBl, kBl, dTru, kTru, DL.truD, dOp, dCl, s1, s2, dCons, dNil, dVar, dMov, dC, kLenN, peek, lenW, noDict, lenD, sCmp, sOrd, sEq, kEq, sIn, sIsN, nonW, sInt, sAdd, sMul, sRows, rowD, flat, dsOf, seqW, dRet, dRetN, dDrop, dBrk, dCnt, dAsg, gN, gTp, gsCons, gsNil, DL.gSub, setW, useW, useWs, useD, nosto, nostos, fz, fzs, dCall, dCall0, argsD, argD, dLst, dTup, dIte, dAnd, dOr, dNot, dNeg, dBm, isTy, mApp, sIx, kItem, rowOf, dSl, kSl, dNo, dSo, kInt, kStr, kRepr, kListOf, kIsi, tyN, dFor, dRow, dRng1, dRng2, dComp, wipeE, dYes, dJoin, dJs, dFmt, kFmt, pkS, kI2, kAbs, okq, eqv, okqs, eqvs, kCat, dsOf_map, nostos_d, fzs_d, dChn, dRaise0, dRaise, dTryAs, dCallH, kIsX, dXf, kXf, dChN, dChT, dLinks, dBits, dIxMv, subX_ce, isExn, suE, dropX, dropO, keepX, nox, noxs, List.map_cons, List.map_nil, List.any_cons, List.any_nil, List.getElem?_cons_zero, List.getElem?_cons_succ, List.set_cons_zero, List.set_cons_succ, List.length_cons, List.length_nil, Option.bind_some, Option.map_some, if_true, if_false, Bool.false_eq_true, decide_eq_true_eq, true_and, List.length_map, Bool.not_true, Bool.not_false, Bool.not_eq_true', decide_eq_false_iff_not, Bool.false_bne, eq_self, beq_self_eq_true, Bool.true_bne, ite_self, reduceCtorEq, clear, flatL]
  walk_at "crunch"
  -- the end: a list of three, and two of its items perhaps set anew
  have fin : ∀ a b d : Int, t__law_triple_0_12 (retE k) (fun x _ => kx x) [some .sto, some (.d (.int c)), some (.d (.int lo)), some (.d (.int (lo + 1 + hi))), some (.d (.int ch)), some (.ol (l3 a b d))] := fun a b d => by
    simp only [t__law_triple_0_12, l3, dSeq, dNext, dIf, dOrT, dAndT, dNotT, dBl, kBl, dTru, kTru, DL.truD, dOp, dCl, s1, s2, dCons, dNil, dVar, dMov, dC, kLenN, peek, lenW, noDict, lenD, sCmp, sOrd, sEq, kEq, sIn, sIsN, nonW, sInt, sAdd, sMul, sRows, rowD, flat, dsOf, seqW, dRet, dRetN, dDrop, dBrk, dCnt, dAsg, gN, gTp, gsCons, gsNil, DL.gSub, setW, useW, useWs, useD, nosto, nostos, fz, fzs, dCall, dCall0, argsD, argD, dLst, dTup, dIte, dAnd, dOr, dNot, dNeg, dBm, isTy, mApp, sIx, kItem, rowOf, dSl, kSl, dNo, dSo, kInt, kStr, kRepr, kListOf, kIsi, tyN, dFor, dRow, dRng1, dRng2, dComp, wipeE, dYes, dJoin, dJs, dFmt, kFmt, pkS, kI2, kAbs, okq, eqv, okqs, eqvs, kCat, dsOf_map, nostos_d, fzs_d, dChn, dRaise0, dRaise, dTryAs, dCallH, kIsX, dXf, kXf, dChN, dChT, dLinks, dBits, dIxMv, subX_ce, isExn, suE, dropX, dropO, keepX, nox, noxs, List.map_cons, List.map_nil, List.any_cons, List.any_nil, List.getElem?_cons_zero, List.getElem?_cons_succ, List.set_cons_zero, List.set_cons_succ, List.length_cons, List.length_nil, Option.bind_some, Option.map_some, if_true, if_false, Bool.false_eq_true, decide_eq_true_eq, true_and, List.length_map, Bool.not_true, Bool.not_false, Bool.not_eq_true', decide_eq_false_iff_not, Bool.false_bne, eq_self, beq_self_eq_true, Bool.true_bne, ite_self, reduceCtorEq, a6_0, a6_1, a6_2, a6_3, a6_4, a6_5, a4_0, a4_1, a4_2, a4_3, a3_0, a3_1, a3_2, a2_0, a2_1, a1_0, useWs, retE]
    walk_at "crunch"
    exact ⟨_, rfl, hk _ _ _⟩
  have tail : t__law_triple_0_9 (retE k) (fun x _ => kx x) [some .sto, some (.d (.int c)), some (.d (.int lo)), some (.d (.int (lo + 1 + hi))), some (.d (.int ch)), none] := by
    simp only [t__law_triple_0_9, dSeq, dNext, dIf, dOrT, dAndT, dNotT, dBl, kBl, dTru, kTru, DL.truD, dOp, dCl, s1, s2, dCons, dNil, dVar, dMov, dC, kLenN, peek, lenW, noDict, lenD, sCmp, sOrd, sEq, kEq, sIn, sIsN, nonW, sInt, sAdd, sMul, sRows, rowD, flat, dsOf, seqW, dRet, dRetN, dDrop, dBrk, dCnt, dAsg, gN, gTp, gsCons, gsNil, DL.gSub, setW, useW, useWs, useD, nosto, nostos, fz, fzs, dCall, dCall0, argsD, argD, dLst, dTup, dIte, dAnd, dOr, dNot, dNeg, dBm, isTy, mApp, sIx, kItem, rowOf, dSl, kSl, dNo, dSo, kInt, kStr, kRepr, kListOf, kIsi, tyN, dFor, dRow, dRng1, dRng2, dComp, wipeE, dYes, dJoin, dJs, dFmt, kFmt, pkS, kI2, kAbs, okq, eqv, okqs, eqvs, kCat, dsOf_map, nostos_d, fzs_d, dChn, dRaise0, dRaise, dTryAs, dCallH, kIsX, dXf, kXf, dChN, dChT, dLinks, dBits, dIxMv, subX_ce, isExn, suE, dropX, dropO, keepX, nox, noxs, List.map_cons, List.map_nil, List.any_cons, List.any_nil, List.getElem?_cons_zero, List.getElem?_cons_succ, List.set_cons_zero, List.set_cons_succ, List.length_cons, List.length_nil, Option.bind_some, Option.map_some, if_true, if_false, Bool.false_eq_true, decide_eq_true_eq, true_and, List.length_map, Bool.not_true, Bool.not_false, Bool.not_eq_true', decide_eq_false_iff_not, Bool.false_bne, eq_self, beq_self_eq_true, Bool.true_bne, ite_self, reduceCtorEq, useWs]
    walk_at "crunch"
    simp only [t__law_triple_0_10, dSeq, dNext, dIf, dOrT, dAndT, dNotT, dBl, kBl, dTru, kTru, DL.truD, dOp, dCl, s1, s2, dCons, dNil, dVar, dMov, dC, kLenN, peek, lenW, noDict, lenD, sCmp, sOrd, sEq, kEq, sIn, sIsN, nonW, sInt, sAdd, sMul, sRows, rowD, flat, dsOf, seqW, dRet, dRetN, dDrop, dBrk, dCnt, dAsg, gN, gTp, gsCons, gsNil, DL.gSub, setW, useW, useWs, useD, nosto, nostos, fz, fzs, dCall, dCall0, argsD, argD, dLst, dTup, dIte, dAnd, dOr, dNot, dNeg, dBm, isTy, mApp, sIx, kItem, rowOf, dSl, kSl, dNo, dSo, kInt, kStr, kRepr, kListOf, kIsi, tyN, dFor, dRow, dRng1, dRng2, dComp, wipeE, dYes, dJoin, dJs, dFmt, kFmt, pkS, kI2, kAbs, okq, eqv, okqs, eqvs, kCat, dsOf_map, nostos_d, fzs_d, dChn, dRaise0, dRaise, dTryAs, dCallH, kIsX, dXf, kXf, dChN, dChT, dLinks, dBits, dIxMv, subX_ce, isExn, suE, dropX, dropO, keepX, nox, noxs, List.map_cons, List.map_nil, List.any_cons, List.any_nil, List.getElem?_cons_zero, List.getElem?_cons_succ, List.set_cons_zero, List.set_cons_succ, List.length_cons, List.length_nil, Option.bind_some, Option.map_some, if_true, if_false, Bool.false_eq_true, decide_eq_true_eq, true_and, List.length_map, Bool.not_true, Bool.not_false, Bool.not_eq_true', decide_eq_false_iff_not, Bool.false_bne, eq_self, beq_self_eq_true, Bool.true_bne, ite_self, reduceCtorEq, S__law_wild, S__law_take, S_take]
    intro v
    refine ⟨_, rfl, by decide, by decide, fun i i0 i1 => ?_⟩
    obtain ⟨j, j3, ej⟩ := ix3 i0 i1
    try simp only [dSeq, dNext, dIf, dOrT, dAndT, dNotT, dBl, kBl, dTru, kTru, DL.truD, dOp, dCl, s1, s2, dCons, dNil, dVar, dMov, dC, kLenN, peek, lenW, noDict, lenD, sCmp, sOrd, sEq, kEq, sIn, sIsN, nonW, sInt, sAdd, sMul, sRows, rowD, flat, dsOf, seqW, dRet, dRetN, dDrop, dBrk, dCnt, dAsg, gN, gTp, gsCons, gsNil, DL.gSub, setW, useW, useWs, useD, nosto, nostos, fz, fzs, dCall, dCall0, argsD, argD, dLst, dTup, dIte, dAnd, dOr, dNot, dNeg, dBm, isTy, mApp, sIx, kItem, rowOf, dSl, kSl, dNo, dSo, kInt, kStr, kRepr, kListOf, kIsi, tyN, dFor, dRow, dRng1, dRng2, dComp, wipeE, dYes, dJoin, dJs, dFmt, kFmt, pkS, kI2, kAbs, okq, eqv, okqs, eqvs, kCat, dsOf_map, nostos_d, fzs_d, dChn, dRaise0, dRaise, dTryAs, dCallH, kIsX, dXf, kXf, dChN, dChT, dLinks, dBits, dIxMv, subX_ce, isExn, suE, dropX, dropO, keepX, nox, noxs, List.map_cons, List.map_nil, List.any_cons, List.any_nil, List.getElem?_cons_zero, List.getElem?_cons_succ, List.set_cons_zero, List.set_cons_succ, List.length_cons, List.length_nil, Option.bind_some, Option.map_some, if_true, if_false, Bool.false_eq_true, decide_eq_true_eq, true_and, List.length_map, Bool.not_true, Bool.not_false, Bool.not_eq_true', decide_eq_false_iff_not, Bool.false_bne, eq_self, beq_self_eq_true, Bool.true_bne, ite_self, reduceCtorEq, clear, flatL, ej]
    obtain ⟨a, b, d, es⟩ := set3 (a := c) (b := lo) (c := lo + 1 + hi) (v := v) j3
    unfold l3 at es
    rw [es]
    show t__law_triple_0_11 (retE k) (fun x _ => kx x) [some .sto, some (.d (.int c)), some (.d (.int lo)), some (.d (.int (lo + 1 + hi))), some (.d (.int ch)), some (.ol (l3 a b d))]
    simp only [t__law_triple_0_11, dSeq, dNext, dIf, dOrT, dAndT, dNotT, dBl, kBl, dTru, kTru, DL.truD, dOp, dCl, s1, s2, dCons, dNil, dVar, dMov, dC, kLenN, peek, lenW, noDict, lenD, sCmp, sOrd, sEq, kEq, sIn, sIsN, nonW, sInt, sAdd, sMul, sRows, rowD, flat, dsOf, seqW, dRet, dRetN, dDrop, dBrk, dCnt, dAsg, gN, gTp, gsCons, gsNil, DL.gSub, setW, useW, useWs, useD, nosto, nostos, fz, fzs, dCall, dCall0, argsD, argD, dLst, dTup, dIte, dAnd, dOr, dNot, dNeg, dBm, isTy, mApp, sIx, kItem, rowOf, dSl, kSl, dNo, dSo, kInt, kStr, kRepr, kListOf, kIsi, tyN, dFor, dRow, dRng1, dRng2, dComp, wipeE, dYes, dJoin, dJs, dFmt, kFmt, pkS, kI2, kAbs, okq, eqv, okqs, eqvs, kCat, dsOf_map, nostos_d, fzs_d, dChn, dRaise0, dRaise, dTryAs, dCallH, kIsX, dXf, kXf, dChN, dChT, dLinks, dBits, dIxMv, subX_ce, isExn, suE, dropX, dropO, keepX, nox, noxs, List.map_cons, List.map_nil, List.any_cons, List.any_nil, List.getElem?_cons_zero, List.getElem?_cons_succ, List.set_cons_zero, List.set_cons_succ, List.length_cons, List.length_nil, Option.bind_some, Option.map_some, if_true, if_false, Bool.false_eq_true, decide_eq_true_eq, true_and, List.length_map, Bool.not_true, Bool.not_false, Bool.not_eq_true', decide_eq_false_iff_not, Bool.false_bne, eq_self, beq_self_eq_true, Bool.true_bne, ite_self, reduceCtorEq]
    walk_at "crunch"
    · simp only [t__law_triple_1_0, dSeq, dNext, dIf, dOrT, dAndT, dNotT, dBl, kBl, dTru, kTru, DL.truD, dOp, dCl, s1, s2, dCons, dNil, dVar, dMov, dC, kLenN, peek, lenW, noDict, lenD, sCmp, sOrd, sEq, kEq, sIn, sIsN, nonW, sInt, sAdd, sMul, sRows, rowD, flat, dsOf, seqW, dRet, dRetN, dDrop, dBrk, dCnt, dAsg, gN, gTp, gsCons, gsNil, DL.gSub, setW, useW, useWs, useD, nosto, nostos, fz, fzs, dCall, dCall0, argsD, argD, dLst, dTup, dIte, dAnd, dOr, dNot, dNeg, dBm, isTy, mApp, sIx, kItem, rowOf, dSl, kSl, dNo, dSo, kInt, kStr, kRepr, kListOf, kIsi, tyN, dFor, dRow, dRng1, dRng2, dComp, wipeE, dYes, dJoin, dJs, dFmt, kFmt, pkS, kI2, kAbs, okq, eqv, okqs, eqvs, kCat, dsOf_map, nostos_d, fzs_d, dChn, dRaise0, dRaise, dTryAs, dCallH, kIsX, dXf, kXf, dChN, dChT, dLinks, dBits, dIxMv, subX_ce, isExn, suE, dropX, dropO, keepX, nox, noxs, List.map_cons, List.map_nil, List.any_cons, List.any_nil, List.getElem?_cons_zero, List.getElem?_cons_succ, List.set_cons_zero, List.set_cons_succ, List.length_cons, List.length_nil, Option.bind_some, Option.map_some, if_true, if_false, Bool.false_eq_true, decide_eq_true_eq, true_and, List.length_map, Bool.not_true, Bool.not_false, Bool.not_eq_true', decide_eq_false_iff_not, Bool.false_bne, eq_self, beq_self_eq_true, Bool.true_bne, ite_self, reduceCtorEq, S__law_wild, S__law_take, S_take]
      intro v
      refine ⟨_, rfl, by decide, by decide, fun i i0 i1 => ?_⟩
      obtain ⟨j, j3, ej⟩ := ix3 i0 i1
      try simp only [dSeq, dNext, dIf, dOrT, dAndT, dNotT, dBl, kBl, dTru, kTru, DL.truD, dOp, dCl, s1, s2, dCons, dNil, dVar, dMov, dC, kLenN, peek, lenW, noDict, lenD, sCmp, sOrd, sEq, kEq, sIn, sIsN, nonW, sInt, sAdd, sMul, sRows, rowD, flat, dsOf, seqW, dRet, dRetN, dDrop, dBrk, dCnt, dAsg, gN, gTp, gsCons, gsNil, DL.gSub, setW, useW, useWs, useD, nosto, nostos, fz, fzs, dCall, dCall0, argsD, argD, dLst, dTup, dIte, dAnd, dOr, dNot, dNeg, dBm, isTy, mApp, sIx, kItem, rowOf, dSl, kSl, dNo, dSo, kInt, kStr, kRepr, kListOf, kIsi, tyN, dFor, dRow, dRng1, dRng2, dComp, wipeE, dYes, dJoin, dJs, dFmt, kFmt, pkS, kI2, kAbs, okq, eqv, okqs, eqvs, kCat, dsOf_map, nostos_d, fzs_d, dChn, dRaise0, dRaise, dTryAs, dCallH, kIsX, dXf, kXf, dChN, dChT, dLinks, dBits, dIxMv, subX_ce, isExn, suE, dropX, dropO, keepX, nox, noxs, List.map_cons, List.map_nil, List.any_cons, List.any_nil, List.getElem?_cons_zero, List.getElem?_cons_succ, List.set_cons_zero, List.set_cons_succ, List.length_cons, List.length_nil, Option.bind_some, Option.map_some, if_true, if_false, Bool.false_eq_true, decide_eq_true_eq, true_and, List.length_map, Bool.not_true, Bool.not_false, Bool.not_eq_true', decide_eq_false_iff_not, Bool.false_bne, eq_self, beq_self_eq_true, Bool.true_bne, ite_self, reduceCtorEq, clear, flatL, len3, ej]
      obtain ⟨a, b, d, es⟩ := set3 (a := a) (b := b) (c := d) (v := v) j3
      rw [es]
      exact fin a b d
    · exact fin a b d
  simp only [t__law_triple_0_3, t__law_triple_7_0, dSeq, dNext, dIf, dOrT, dAndT, dNotT, dBl, kBl, dTru, kTru, DL.truD, dOp, dCl, s1, s2, dCons, dNil, dVar, dMov, dC, kLenN, peek, lenW, noDict, lenD, sCmp, sOrd, sEq, kEq, sIn, sIsN, nonW, sInt, sAdd, sMul, sRows, rowD, flat, dsOf, seqW, dRet, dRetN, dDrop, dBrk, dCnt, dAsg, gN, gTp, gsCons, gsNil, DL.gSub, setW, useW, useWs, useD, nosto, nostos, fz, fzs, dCall, dCall0, argsD, argD, dLst, dTup, dIte, dAnd, dOr, dNot, dNeg, dBm, isTy, mApp, sIx, kItem, rowOf, dSl, kSl, dNo, dSo, kInt, kStr, kRepr, kListOf, kIsi, tyN, dFor, dRow, dRng1, dRng2, dComp, wipeE, dYes, dJoin, dJs, dFmt, kFmt, pkS, kI2, kAbs, okq, eqv, okqs, eqvs, kCat, dsOf_map, nostos_d, fzs_d, dChn, dRaise0, dRaise, dTryAs, dCallH, kIsX, dXf, kXf, dChN, dChT, dLinks, dBits, dIxMv, subX_ce, isExn, suE, dropX, dropO, keepX, nox, noxs, List.map_cons, List.map_nil, List.any_cons, List.any_nil, List.getElem?_cons_zero, List.getElem?_cons_succ, List.set_cons_zero, List.set_cons_succ, List.length_cons, List.length_nil, Option.bind_some, Option.map_some, if_true, if_false, Bool.false_eq_true, decide_eq_true_eq, true_and, List.length_map, Bool.not_true, Bool.not_false, Bool.not_eq_true', decide_eq_false_iff_not, Bool.false_bne, eq_self, beq_self_eq_true, Bool.true_bne, ite_self, reduceCtorEq, useWs, S__law_take, S_take, retE]
  walk_at "crunch"
  · exact ⟨_, rfl, hk _ _ _⟩
  simp only [t__law_triple_0_4, t__law_triple_6_0, dSeq, dNext, dIf, dOrT, dAndT, dNotT, dBl, kBl, dTru, kTru, DL.truD, dOp, dCl, s1, s2, dCons, dNil, dVar, dMov, dC, kLenN, peek, lenW, noDict, lenD, sCmp, sOrd, sEq, kEq, sIn, sIsN, nonW, sInt, sAdd, sMul, sRows, rowD, flat, dsOf, seqW, dRet, dRetN, dDrop, dBrk, dCnt, dAsg, gN, gTp, gsCons, gsNil, DL.gSub, setW, useW, useWs, useD, nosto, nostos, fz, fzs, dCall, dCall0, argsD, argD, dLst, dTup, dIte, dAnd, dOr, dNot, dNeg, dBm, isTy, mApp, sIx, kItem, rowOf, dSl, kSl, dNo, dSo, kInt, kStr, kRepr, kListOf, kIsi, tyN, dFor, dRow, dRng1, dRng2, dComp, wipeE, dYes, dJoin, dJs, dFmt, kFmt, pkS, kI2, kAbs, okq, eqv, okqs, eqvs, kCat, dsOf_map, nostos_d, fzs_d, dChn, dRaise0, dRaise, dTryAs, dCallH, kIsX, dXf, kXf, dChN, dChT, dLinks, dBits, dIxMv, subX_ce, isExn, suE, dropX, dropO, keepX, nox, noxs, List.map_cons, List.map_nil, List.any_cons, List.any_nil, List.getElem?_cons_zero, List.getElem?_cons_succ, List.set_cons_zero, List.set_cons_succ, List.length_cons, List.length_nil, Option.bind_some, Option.map_some, if_true, if_false, Bool.false_eq_true, decide_eq_true_eq, true_and, List.length_map, Bool.not_true, Bool.not_false, Bool.not_eq_true', decide_eq_false_iff_not, Bool.false_bne, eq_self, beq_self_eq_true, Bool.true_bne, ite_self, reduceCtorEq, useWs, S__law_take, S_take, retE]
  walk_at "crunch"
  · exact ⟨_, rfl, hk _ _ _⟩
  simp only [t__law_triple_0_5, t__law_triple_5_0, dSeq, dNext, dIf, dOrT, dAndT, dNotT, dBl, kBl, dTru, kTru, DL.truD, dOp, dCl, s1, s2, dCons, dNil, dVar, dMov, dC, kLenN, peek, lenW, noDict, lenD, sCmp, sOrd, sEq, kEq, sIn, sIsN, nonW, sInt, sAdd, sMul, sRows, rowD, flat, dsOf, seqW, dRet, dRetN, dDrop, dBrk, dCnt, dAsg, gN, gTp, gsCons, gsNil, DL.gSub, setW, useW, useWs, useD, nosto, nostos, fz, fzs, dCall, dCall0, argsD, argD, dLst, dTup, dIte, dAnd, dOr, dNot, dNeg, dBm, isTy, mApp, sIx, kItem, rowOf, dSl, kSl, dNo, dSo, kInt, kStr, kRepr, kListOf, kIsi, tyN, dFor, dRow, dRng1, dRng2, dComp, wipeE, dYes, dJoin, dJs, dFmt, kFmt, pkS, kI2, kAbs, okq, eqv, okqs, eqvs, kCat, dsOf_map, nostos_d, fzs_d, dChn, dRaise0, dRaise, dTryAs, dCallH, kIsX, dXf, kXf, dChN, dChT, dLinks, dBits, dIxMv, subX_ce, isExn, suE, dropX, dropO, keepX, nox, noxs, List.map_cons, List.map_nil, List.any_cons, List.any_nil, List.getElem?_cons_zero, List.getElem?_cons_succ, List.set_cons_zero, List.set_cons_succ, List.length_cons, List.length_nil, Option.bind_some, Option.map_some, if_true, if_false, Bool.false_eq_true, decide_eq_true_eq, true_and, List.length_map, Bool.not_true, Bool.not_false, Bool.not_eq_true', decide_eq_false_iff_not, Bool.false_bne, eq_self, beq_self_eq_true, Bool.true_bne, ite_self, reduceCtorEq, useWs, S__law_take, S_take, retE]
  walk_at "crunch"
  · refine ⟨_, rfl, by decide, by decide, fun v _ _ => ?_⟩
    try simp only [dSeq, dNext, dIf, dOrT, dAndT, dNotT, dBl, kBl, dTru, kTru, DL.truD, dOp, dCl, s1, s2, dCons, dNil, dVar, dMov, dC, kLenN, peek, lenW, noDict, lenD, sCmp, sOrd, sEq, kEq, sIn, sIsN, nonW, sInt, sAdd, sMul, sRows, rowD, flat, dsOf, seqW, dRet, dRetN, dDrop, dBrk, dCnt, dAsg, gN, gTp, gsCons, gsNil, DL.gSub, setW, useW, useWs, useD, nosto, nostos, fz, fzs, dCall, dCall0, argsD, argD, dLst, dTup, dIte, dAnd, dOr, dNot, dNeg, dBm, isTy, mApp, sIx, kItem, rowOf, dSl, kSl, dNo, dSo, kInt, kStr, kRepr, kListOf, kIsi, tyN, dFor, dRow, dRng1, dRng2, dComp, wipeE, dYes, dJoin, dJs, dFmt, kFmt, pkS, kI2, kAbs, okq, eqv, okqs, eqvs, kCat, dsOf_map, nostos_d, fzs_d, dChn, dRaise0, dRaise, dTryAs, dCallH, kIsX, dXf, kXf, dChN, dChT, dLinks, dBits, dIxMv, subX_ce, isExn, suE, dropX, dropO, keepX, nox, noxs, List.map_cons, List.map_nil, List.any_cons, List.any_nil, List.getElem?_cons_zero, List.getElem?_cons_succ, List.set_cons_zero, List.set_cons_succ, List.length_cons, List.length_nil, Option.bind_some, Option.map_some, if_true, if_false, Bool.false_eq_true, decide_eq_true_eq, true_and, List.length_map, Bool.not_true, Bool.not_false, Bool.not_eq_true', decide_eq_false_iff_not, Bool.false_bne, eq_self, beq_self_eq_true, Bool.true_bne, ite_self, reduceCtorEq, clear, flatL, useWs]
    walk_at "crunch"
    exact ⟨_, rfl, hk _ _ _⟩
  simp only [t__law_triple_0_6, t__law_triple_4_0, dSeq, dNext, dIf, dOrT, dAndT, dNotT, dBl, kBl, dTru, kTru, DL.truD, dOp, dCl, s1, s2, dCons, dNil, dVar, dMov, dC, kLenN, peek, lenW, noDict, lenD, sCmp, sOrd, sEq, kEq, sIn, sIsN, nonW, sInt, sAdd, sMul, sRows, rowD, flat, dsOf, seqW, dRet, dRetN, dDrop, dBrk, dCnt, dAsg, gN, gTp, gsCons, gsNil, DL.gSub, setW, useW, useWs, useD, nosto, nostos, fz, fzs, dCall, dCall0, argsD, argD, dLst, dTup, dIte, dAnd, dOr, dNot, dNeg, dBm, isTy, mApp, sIx, kItem, rowOf, dSl, kSl, dNo, dSo, kInt, kStr, kRepr, kListOf, kIsi, tyN, dFor, dRow, dRng1, dRng2, dComp, wipeE, dYes, dJoin, dJs, dFmt, kFmt, pkS, kI2, kAbs, okq, eqv, okqs, eqvs, kCat, dsOf_map, nostos_d, fzs_d, dChn, dRaise0, dRaise, dTryAs, dCallH, kIsX, dXf, kXf, dChN, dChT, dLinks, dBits, dIxMv, subX_ce, isExn, suE, dropX, dropO, keepX, nox, noxs, List.map_cons, List.map_nil, List.any_cons, List.any_nil, List.getElem?_cons_zero, List.getElem?_cons_succ, List.set_cons_zero, List.set_cons_succ, List.length_cons, List.length_nil, Option.bind_some, Option.map_some, if_true, if_false, Bool.false_eq_true, decide_eq_true_eq, true_and, List.length_map, Bool.not_true, Bool.not_false, Bool.not_eq_true', decide_eq_false_iff_not, Bool.false_bne, eq_self, beq_self_eq_true, Bool.true_bne, ite_self, reduceCtorEq, useWs, S__law_take, S_take, retE]
  walk_at "crunch"
  · refine ⟨_, rfl, by decide, by decide, fun v _ _ => ?_⟩
    try simp only [dSeq, dNext, dIf, dOrT, dAndT, dNotT, dBl, kBl, dTru, kTru, DL.truD, dOp, dCl, s1, s2, dCons, dNil, dVar, dMov, dC, kLenN, peek, lenW, noDict, lenD, sCmp, sOrd, sEq, kEq, sIn, sIsN, nonW, sInt, sAdd, sMul, sRows, rowD, flat, dsOf, seqW, dRet, dRetN, dDrop, dBrk, dCnt, dAsg, gN, gTp, gsCons, gsNil, DL.gSub, setW, useW, useWs, useD, nosto, nostos, fz, fzs, dCall, dCall0, argsD, argD, dLst, dTup, dIte, dAnd, dOr, dNot, dNeg, dBm, isTy, mApp, sIx, kItem, rowOf, dSl, kSl, dNo, dSo, kInt, kStr, kRepr, kListOf, kIsi, tyN, dFor, dRow, dRng1, dRng2, dComp, wipeE, dYes, dJoin, dJs, dFmt, kFmt, pkS, kI2, kAbs, okq, eqv, okqs, eqvs, kCat, dsOf_map, nostos_d, fzs_d, dChn, dRaise0, dRaise, dTryAs, dCallH, kIsX, dXf, kXf, dChN, dChT, dLinks, dBits, dIxMv, subX_ce, isExn, suE, dropX, dropO, keepX, nox, noxs, List.map_cons, List.map_nil, List.any_cons, List.any_nil, List.getElem?_cons_zero, List.getElem?_cons_succ, List.set_cons_zero, List.set_cons_succ, List.length_cons, List.length_nil, Option.bind_some, Option.map_some, if_true, if_false, Bool.false_eq_true, decide_eq_true_eq, true_and, List.length_map, Bool.not_true, Bool.not_false, Bool.not_eq_true', decide_eq_false_iff_not, Bool.false_bne, eq_self, beq_self_eq_true, Bool.true_bne, ite_self, reduceCtorEq, clear, flatL, useWs]
    walk_at "crunch"
    exact ⟨_, rfl, hk _ _ _⟩
  simp only [t__law_triple_0_7, t__law_triple_3_0, dSeq, dNext, dIf, dOrT, dAndT, dNotT, dBl, kBl, dTru, kTru, DL.truD, dOp, dCl, s1, s2, dCons, dNil, dVar, dMov, dC, kLenN, peek, lenW, noDict, lenD, sCmp, sOrd, sEq, kEq, sIn, sIsN, nonW, sInt, sAdd, sMul, sRows, rowD, flat, dsOf, seqW, dRet, dRetN, dDrop, dBrk, dCnt, dAsg, gN, gTp, gsCons, gsNil, DL.gSub, setW, useW, useWs, useD, nosto, nostos, fz, fzs, dCall, dCall0, argsD, argD, dLst, dTup, dIte, dAnd, dOr, dNot, dNeg, dBm, isTy, mApp, sIx, kItem, rowOf, dSl, kSl, dNo, dSo, kInt, kStr, kRepr, kListOf, kIsi, tyN, dFor, dRow, dRng1, dRng2, dComp, wipeE, dYes, dJoin, dJs, dFmt, kFmt, pkS, kI2, kAbs, okq, eqv, okqs, eqvs, kCat, dsOf_map, nostos_d, fzs_d, dChn, dRaise0, dRaise, dTryAs, dCallH, kIsX, dXf, kXf, dChN, dChT, dLinks, dBits, dIxMv, subX_ce, isExn, suE, dropX, dropO, keepX, nox, noxs, List.map_cons, List.map_nil, List.any_cons, List.any_nil, List.getElem?_cons_zero, List.getElem?_cons_succ, List.set_cons_zero, List.set_cons_succ, List.length_cons, List.length_nil, Option.bind_some, Option.map_some, if_true, if_false, Bool.false_eq_true, decide_eq_true_eq, true_and, List.length_map, Bool.not_true, Bool.not_false, Bool.not_eq_true', decide_eq_false_iff_not, Bool.false_bne, eq_self, beq_self_eq_true, Bool.true_bne, ite_self, reduceCtorEq, useWs, S__law_take, S_take, retE]
  walk_at "crunch"
  · exact ⟨_, rfl, hk _ _ _⟩
  simp only [t__law_triple_0_8, t__law_triple_2_0, dSeq, dNext, dIf, dOrT, dAndT, dNotT, dBl, kBl, dTru, kTru, DL.truD, dOp, dCl, s1, s2, dCons, dNil, dVar, dMov, dC, kLenN, peek, lenW, noDict, lenD, sCmp, sOrd, sEq, kEq, sIn, sIsN, nonW, sInt, sAdd, sMul, sRows, rowD, flat, dsOf, seqW, dRet, dRetN, dDrop, dBrk, dCnt, dAsg, gN, gTp, gsCons, gsNil, DL.gSub, setW, useW, useWs, useD, nosto, nostos, fz, fzs, dCall, dCall0, argsD, argD, dLst, dTup, dIte, dAnd, dOr, dNot, dNeg, dBm, isTy, mApp, sIx, kItem, rowOf, dSl, kSl, dNo, dSo, kInt, kStr, kRepr, kListOf, kIsi, tyN, dFor, dRow, dRng1, dRng2, dComp, wipeE, dYes, dJoin, dJs, dFmt, kFmt, pkS, kI2, kAbs, okq, eqv, okqs, eqvs, kCat, dsOf_map, nostos_d, fzs_d, dChn, dRaise0, dRaise, dTryAs, dCallH, kIsX, dXf, kXf, dChN, dChT, dLinks, dBits, dIxMv, subX_ce, isExn, suE, dropX, dropO, keepX, nox, noxs, List.map_cons, List.map_nil, List.any_cons, List.any_nil, List.getElem?_cons_zero, List.getElem?_cons_succ, List.set_cons_zero, List.set_cons_succ, List.length_cons, List.length_nil, Option.bind_some, Option.map_some, if_true, if_false, Bool.false_eq_true, decide_eq_true_eq, true_and, List.length_map, Bool.not_true, Bool.not_false, Bool.not_eq_true', decide_eq_false_iff_not, Bool.false_bne, eq_self, beq_self_eq_true, Bool.true_bne, ite_self, reduceCtorEq, useWs, S__law_take, S_take, retE]
  walk_at "crunch"
  · refine ⟨_, rfl, by decide, by decide, fun v _ _ => ?_⟩
    try simp only [dSeq, dNext, dIf, dOrT, dAndT, dNotT, dBl, kBl, dTru, kTru, DL.truD, dOp, dCl, s1, s2, dCons, dNil, dVar, dMov, dC, kLenN, peek, lenW, noDict, lenD, sCmp, sOrd, sEq, kEq, sIn, sIsN, nonW, sInt, sAdd, sMul, sRows, rowD, flat, dsOf, seqW, dRet, dRetN, dDrop, dBrk, dCnt, dAsg, gN, gTp, gsCons, gsNil, DL.gSub, setW, useW, useWs, useD, nosto, nostos, fz, fzs, dCall, dCall0, argsD, argD, dLst, dTup, dIte, dAnd, dOr, dNot, dNeg, dBm, isTy, mApp, sIx, kItem, rowOf, dSl, kSl, dNo, dSo, kInt, kStr, kRepr, kListOf, kIsi, tyN, dFor, dRow, dRng1, dRng2, dComp, wipeE, dYes, dJoin, dJs, dFmt, kFmt, pkS, kI2, kAbs, okq, eqv, okqs, eqvs, kCat, dsOf_map, nostos_d, fzs_d, dChn, dRaise0, dRaise, dTryAs, dCallH, kIsX, dXf, kXf, dChN, dChT, dLinks, dBits, dIxMv, subX_ce, isExn, suE, dropX, dropO, keepX, nox, noxs, List.map_cons, List.map_nil, List.any_cons, List.any_nil, List.getElem?_cons_zero, List.getElem?_cons_succ, List.set_cons_zero, List.set_cons_succ, List.length_cons, List.length_nil, Option.bind_some, Option.map_some, if_true, if_false, Bool.false_eq_true, decide_eq_true_eq, true_and, List.length_map, Bool.not_true, Bool.not_false, Bool.not_eq_true', decide_eq_false_iff_not, Bool.false_bne, eq_self, beq_self_eq_true, Bool.true_bne, ite_self, reduceCtorEq, clear, flatL, useWs]
    walk_at "crunch"
    exact ⟨_, rfl, hk _ _ _⟩
  exact tail

end Lk25

open PySem DL
namespace Lk25
theorem chk_ok {lo hi : Int} (h0 : 0 ≤ lo) (h1 : lo < hi) (h2 : hi ≤ 16) : chkL lo hi lo (spans 16 lo hi) = true := by
  have key : ∀ a : Fin 16, ∀ b : Fin 17, a.val < b.val → chkL (a.val : Int) b.val a.val (spans 16 a.val b.val) = true := by decide +kernel
  obtain ⟨a, rfl⟩ : ∃ a : Nat, lo = a := ⟨lo.toNat, by omega⟩
  obtain ⟨b, rfl⟩ : ∃ b : Nat, hi = b := ⟨hi.toNat, by omega⟩
  exact key ⟨a, by omega⟩ ⟨b, by omega⟩ (by show a < b; omega)
def sizes (c : Int) : List Int := [1, 2, 4, 8].filter fun s => decide (s < c)
theorem bits_ok {c : Int} (h1 : 1 ≤ c) (h2 : c ≤ 16) : (Builtin.Int.intBits (c - 1) : Nat) = (sizes c).length := by
  have key : ∀ a : Fin 16, (Builtin.Int.intBits (((a.val + 1 : Nat) : Int) - 1) : Nat) = (sizes ((a.val + 1 : Nat) : Int)).length := by decide +kernel
  obtain ⟨a, rfl⟩ : ∃ a : Nat, c = ((a + 1 : Nat) : Int) := ⟨c.toNat - 1, by omega⟩
  exact key ⟨a, by omega⟩
theorem spans_fz (l : List (Int × Int)) : fzs (l.map spanW) = l.map spanD := fzs_map2 fz_span
theorem spans_no (l : List (Int × Int)) : nostos (l.map spanW) = true := nostos_map2 nosto_span
theorem spans_cl (l : List (Int × Int)) : clears (l.map spanW) = true := clears_map2 clear_span
def kf0 : XC := fun _ _ => False
/-- one count -/
theorem one_count {sc : W} {c : Int} {o3 o13 : Option W} {E : DEnds} (h : ∀ o3 o13, E.nx [some sc, some .sto, some (.d (.int c)), o3, none, none, none, none, none, none, none, none, none, o13]) :
    t_law_10_0 E kf0 [some sc, some .sto, some (.d (.int c)), o3, none, none, none, none, none, none, none, none, none, o13] := by
  simp only [t_law_10_0, dSeq, dNext, dIf, dOrT, dAndT, dNotT, dBl, kBl, dTru, kTru, DL.truD, dOp, dCl, s1, s2, dCons, dNil, dVar, dMov, dC, kLenN, peek, lenW, noDict, lenD, sCmp, sOrd, sEq, kEq, sIn, sIsN, nonW, sInt, sAdd, sMul, sRows, rowD, flat, dsOf, seqW, dRet, dRetN, dDrop, dBrk, dCnt, dAsg, gN, gTp, gsCons, gsNil, DL.gSub, setW, useW, useWs, useD, nosto, nostos, fz, fzs, dCall, dCall0, argsD, argD, dLst, dTup, dIte, dAnd, dOr, dNot, dNeg, dBm, isTy, mApp, sIx, kItem, rowOf, dSl, kSl, dNo, dSo, kInt, kStr, kRepr, kListOf, kIsi, tyN, dFor, dRow, dRng1, dRng2, dComp, wipeE, dYes, dJoin, dJs, dFmt, kFmt, pkS, kI2, kAbs, okq, eqv, okqs, eqvs, kCat, dsOf_map, nostos_d, fzs_d, dChn, dRaise0, dRaise, dTryAs, dCallH, kIsX, dXf, kXf, dChN, dChT, dLinks, dBits, dIxMv, subX_ce, isExn, suE, dropX, dropO, keepX, nox, noxs, List.map_cons, List.map_nil, List.any_cons, List.any_nil, List.getElem?_cons_zero, List.getElem?_cons_succ, List.set_cons_zero, List.set_cons_succ, List.length_cons, List.length_nil, Option.bind_some, Option.map_some, if_true, if_false, Bool.false_eq_true, decide_eq_true_eq, true_and, List.length_map, Bool.not_true, Bool.not_false, Bool.not_eq_true', decide_eq_false_iff_not, Bool.false_bne, eq_self, beq_self_eq_true, Bool.true_bne, ite_self, reduceCtorEq, useWs, S__law_due]
  refine ⟨szl (by decide), _, rfl, ?_⟩
  try simp only [dSeq, dNext, dIf, dOrT, dAndT, dNotT, dBl, kBl, dTru, kTru, DL.truD, dOp, dCl, s1, s2, dCons, dNil, dVar, dMov, dC, kLenN, peek, lenW, noDict, lenD, sCmp, sOrd, sEq, kEq, sIn, sIsN, nonW, sInt, sAdd, sMul, sRows, rowD, flat, dsOf, seqW, dRet, dRetN, dDrop, dBrk, dCnt, dAsg, gN, gTp, gsCons, gsNil, DL.gSub, setW, useW, useWs, useD, nosto, nostos, fz, fzs, dCall, dCall0, argsD, argD, dLst, dTup, dIte, dAnd, dOr, dNot, dNeg, dBm, isTy, mApp, sIx, kItem, rowOf, dSl, kSl, dNo, dSo, kInt, kStr, kRepr, kListOf, kIsi, tyN, dFor, dRow, dRng1, dRng2, dComp, wipeE, dYes, dJoin, dJs, dFmt, kFmt, pkS, kI2, kAbs, okq, eqv, okqs, eqvs, kCat, dsOf_map, nostos_d, fzs_d, dChn, dRaise0, dRaise, dTryAs, dCallH, kIsX, dXf, kXf, dChN, dChT, dLinks, dBits, dIxMv, subX_ce, isExn, suE, dropX, dropO, keepX, nox, noxs, List.map_cons, List.map_nil, List.any_cons, List.any_nil, List.getElem?_cons_zero, List.getElem?_cons_succ, List.set_cons_zero, List.set_cons_succ, List.length_cons, List.length_nil, Option.bind_some, Option.map_some, if_true, if_false, Bool.false_eq_true, decide_eq_true_eq, true_and, List.length_map, Bool.not_true, Bool.not_false, Bool.not_eq_true', decide_eq_false_iff_not, Bool.false_bne, eq_self, beq_self_eq_true, Bool.true_bne, ite_self, reduceCtorEq, clear, clears, flatL, Bool.and_self]
  walk_at "crunch"
  simp only [t_law_10_1, dSeq, dNext, dIf, dOrT, dAndT, dNotT, dBl, kBl, dTru, kTru, DL.truD, dOp, dCl, s1, s2, dCons, dNil, dVar, dMov, dC, kLenN, peek, lenW, noDict, lenD, sCmp, sOrd, sEq, kEq, sIn, sIsN, nonW, sInt, sAdd, sMul, sRows, rowD, flat, dsOf, seqW, dRet, dRetN, dDrop, dBrk, dCnt, dAsg, gN, gTp, gsCons, gsNil, DL.gSub, setW, useW, useWs, useD, nosto, nostos, fz, fzs, dCall, dCall0, argsD, argD, dLst, dTup, dIte, dAnd, dOr, dNot, dNeg, dBm, isTy, mApp, sIx, kItem, rowOf, dSl, kSl, dNo, dSo, kInt, kStr, kRepr, kListOf, kIsi, tyN, dFor, dRow, dRng1, dRng2, dComp, wipeE, dYes, dJoin, dJs, dFmt, kFmt, pkS, kI2, kAbs, okq, eqv, okqs, eqvs, kCat, dsOf_map, nostos_d, fzs_d, dChn, dRaise0, dRaise, dTryAs, dCallH, kIsX, dXf, kXf, dChN, dChT, dLinks, dBits, dIxMv, subX_ce, isExn, suE, dropX, dropO, keepX, nox, noxs, List.map_cons, List.map_nil, List.any_cons, List.any_nil, List.getElem?_cons_zero, List.getElem?_cons_succ, List.set_cons_zero, List.set_cons_succ, List.length_cons, List.length_nil, Option.bind_some, Option.map_some, if_true, if_false, Bool.false_eq_true, decide_eq_true_eq, true_and, List.length_map, Bool.not_true, Bool.not_false, Bool.not_eq_true', decide_eq_false_iff_not, Bool.false_bne, eq_self, beq_self_eq_true, Bool.true_bne, ite_self, reduceCtorEq]
  by_cases hv : 1 ≤ c ∧ c ≤ 16
  · obtain ⟨v1, v2⟩ := hv
    have b := bits_ok v1 v2
    suffices main : t_law_12_0 { nx := fun e1 => t_law_10_2 E kf0 e1, rt := E.rt, bk := E.bk, ct := E.ct } kf0 [some sc, some .sto, some (.d (.int c)), some (.ol [.d (.str tRef), .d (.bl true), .ol [.d (.str tBadNumber)], .d (.lst [])]), none, none, none, none, none, none, none, none, none, o13] by
      walk_at "crunch"
      all_goals first | exact main | (exfalso; omega)
    simp only [t_law_12_0, dSeq, dNext, dIf, dOrT, dAndT, dNotT, dBl, kBl, dTru, kTru, DL.truD, dOp, dCl, s1, s2, dCons, dNil, dVar, dMov, dC, kLenN, peek, lenW, noDict, lenD, sCmp, sOrd, sEq, kEq, sIn, sIsN, nonW, sInt, sAdd, sMul, sRows, rowD, flat, dsOf, seqW, dRet, dRetN, dDrop, dBrk, dCnt, dAsg, gN, gTp, gsCons, gsNil, DL.gSub, setW, useW, useWs, useD, nosto, nostos, fz, fzs, dCall, dCall0, argsD, argD, dLst, dTup, dIte, dAnd, dOr, dNot, dNeg, dBm, isTy, mApp, sIx, kItem, rowOf, dSl, kSl, dNo, dSo, kInt, kStr, kRepr, kListOf, kIsi, tyN, dFor, dRow, dRng1, dRng2, dComp, wipeE, dYes, dJoin, dJs, dFmt, kFmt, pkS, kI2, kAbs, okq, eqv, okqs, eqvs, kCat, dsOf_map, nostos_d, fzs_d, dChn, dRaise0, dRaise, dTryAs, dCallH, kIsX, dXf, kXf, dChN, dChT, dLinks, dBits, dIxMv, subX_ce, isExn, suE, dropX, dropO, keepX, nox, noxs, List.map_cons, List.map_nil, List.any_cons, List.any_nil, List.getElem?_cons_zero, List.getElem?_cons_succ, List.set_cons_zero, List.set_cons_succ, List.length_cons, List.length_nil, Option.bind_some, Option.map_some, if_true, if_false, Bool.false_eq_true, decide_eq_true_eq, true_and, List.length_map, Bool.not_true, Bool.not_false, Bool.not_eq_true', decide_eq_false_iff_not, Bool.false_bne, eq_self, beq_self_eq_true, Bool.true_bne, ite_self, reduceCtorEq, useWs]
    walk_at "crunch"
    refine compL_ind (fun r acc env => ∃ l : List Int, r = l.map (fun i => W.d (.int i)) ∧ l.length ≤ 4 ∧ acc.length ≤ 4 ∧ (∀ w ∈ acc, ∃ i, w = .d (.int i)) ∧ acc.length + (l.filter fun s => decide (s < c)).length = (sizes c).length ∧ acc.length + l.length ≤ 4 ∧ env = [some sc, some .sto, some (.d (.int c)), some (.ol [.d (.str tRef), .d (.bl true), .ol [.d (.str tBadNumber)], .d (.lst [])]), none, none, none, none, none, none, none, none, none, none]) ?_ ⟨[1, 2, 4, 8], rfl, by decide, by decide, (fun w h => nomatch h), by show 0 + _ = _; rw [Nat.zero_add]; rfl, by decide, rfl⟩ ?_
    · rintro w r acc env K ⟨l, hr, hl, ha, haw, hs, h4, rfl⟩ hK
      cases l with
      | nil => cases hr
      | cons i l =>
        rw [List.map_cons] at hr
        obtain ⟨rfl, rfl⟩ := List.cons.inj hr
        simp only [compStep, dSeq, dNext, dIf, dOrT, dAndT, dNotT, dBl, kBl, dTru, kTru, DL.truD, dOp, dCl, s1, s2, dCons, dNil, dVar, dMov, dC, kLenN, peek, lenW, noDict, lenD, sCmp, sOrd, sEq, kEq, sIn, sIsN, nonW, sInt, sAdd, sMul, sRows, rowD, flat, dsOf, seqW, dRet, dRetN, dDrop, dBrk, dCnt, dAsg, gN, gTp, gsCons, gsNil, DL.gSub, setW, useW, useWs, useD, nosto, nostos, fz, fzs, dCall, dCall0, argsD, argD, dLst, dTup, dIte, dAnd, dOr, dNot, dNeg, dBm, isTy, mApp, sIx, kItem, rowOf, dSl, kSl, dNo, dSo, kInt, kStr, kRepr, kListOf, kIsi, tyN, dFor, dRow, dRng1, dRng2, dComp, wipeE, dYes, dJoin, dJs, dFmt, kFmt, pkS, kI2, kAbs, okq, eqv, okqs, eqvs, kCat, dsOf_map, nostos_d, fzs_d, dChn, dRaise0, dRaise, dTryAs, dCallH, kIsX, dXf, kXf, dChN, dChT, dLinks, dBits, dIxMv, subX_ce, isExn, suE, dropX, dropO, keepX, nox, noxs, List.map_cons, List.map_nil, List.any_cons, List.any_nil, List.getElem?_cons_zero, List.getElem?_cons_succ, List.set_cons_zero, List.set_cons_succ, List.length_cons, List.length_nil, Option.bind_some, Option.map_some, if_true, if_false, Bool.false_eq_true, decide_eq_true_eq, true_and, List.length_map, Bool.not_true, Bool.not_false, Bool.not_eq_true', decide_eq_false_iff_not, Bool.false_bne, eq_self, beq_self_eq_true, Bool.true_bne, ite_self, reduceCtorEq]
        rw [List.filter_cons] at hs
        simp only [List.length_cons] at h4 hl
        refine ⟨by decide, ?_⟩
        by_cases hc : i < c
        · rw [if_pos hc]
          rw [if_pos (by simpa using hc)] at hs
          refine ⟨szl' (by omega), hK _ _ ⟨l, rfl, by omega, by simp; omega, fun w m => (List.mem_append.mp m).elim (haw w) fun m => ⟨i, List.mem_singleton.mp m⟩, by simp at hs ⊢; omega, by simp; omega, rfl⟩⟩
        · rw [if_neg hc]
          rw [if_neg (by simpa using hc)] at hs
          exact hK _ _ ⟨l, rfl, by omega, ha, haw, hs, by omega, rfl⟩
    · rintro acc e ⟨l, hr, hl, ha, haw, hs, h4, rfl⟩
      have : l = [] := by
        cases l with
        | nil => rfl
        | cons i l => cases hr
      subst this
      have hs : acc.length = (sizes c).length := by simpa using hs
      simp only [dSeq, dNext, dIf, dOrT, dAndT, dNotT, dBl, kBl, dTru, kTru, DL.truD, dOp, dCl, s1, s2, dCons, dNil, dVar, dMov, dC, kLenN, peek, lenW, noDict, lenD, sCmp, sOrd, sEq, kEq, sIn, sIsN, nonW, sInt, sAdd, sMul, sRows, rowD, flat, dsOf, seqW, dRet, dRetN, dDrop, dBrk, dCnt, dAsg, gN, gTp, gsCons, gsNil, DL.gSub, setW, useW, useWs, useD, nosto, nostos, fz, fzs, dCall, dCall0, argsD, argD, dLst, dTup, dIte, dAnd, dOr, dNot, dNeg, dBm, isTy, mApp, sIx, kItem, rowOf, dSl, kSl, dNo, dSo, kInt, kStr, kRepr, kListOf, kIsi, tyN, dFor, dRow, dRng1, dRng2, dComp, wipeE, dYes, dJoin, dJs, dFmt, kFmt, pkS, kI2, kAbs, okq, eqv, okqs, eqvs, kCat, dsOf_map, nostos_d, fzs_d, dChn, dRaise0, dRaise, dTryAs, dCallH, kIsX, dXf, kXf, dChN, dChT, dLinks, dBits, dIxMv, subX_ce, isExn, suE, dropX, dropO, keepX, nox, noxs, List.map_cons, List.map_nil, List.any_cons, List.any_nil, List.getElem?_cons_zero, List.getElem?_cons_succ, List.set_cons_zero, List.set_cons_succ, List.length_cons, List.length_nil, Option.bind_some, Option.map_some, if_true, if_false, Bool.false_eq_true, decide_eq_true_eq, true_and, List.length_map, Bool.not_true, Bool.not_false, Bool.not_eq_true', decide_eq_false_iff_not, Bool.false_bne, eq_self, beq_self_eq_true, Bool.true_bne, ite_self, reduceCtorEq, t_law_10_2]
      walk_at "crunch"
      simp only [S__law_levels]
      refine ⟨c, rfl, ?_⟩
      rw [if_pos ⟨v1, v2⟩, b, ← hs]
      simp only [dSeq, dNext, dIf, dOrT, dAndT, dNotT, dBl, kBl, dTru, kTru, DL.truD, dOp, dCl, s1, s2, dCons, dNil, dVar, dMov, dC, kLenN, peek, lenW, noDict, lenD, sCmp, sOrd, sEq, kEq, sIn, sIsN, nonW, sInt, sAdd, sMul, sRows, rowD, flat, dsOf, seqW, dRet, dRetN, dDrop, dBrk, dCnt, dAsg, gN, gTp, gsCons, gsNil, DL.gSub, setW, useW, useWs, useD, nosto, nostos, fz, fzs, dCall, dCall0, argsD, argD, dLst, dTup, dIte, dAnd, dOr, dNot, dNeg, dBm, isTy, mApp, sIx, kItem, rowOf, dSl, kSl, dNo, dSo, kInt, kStr, kRepr, kListOf, kIsi, tyN, dFor, dRow, dRng1, dRng2, dComp, wipeE, dYes, dJoin, dJs, dFmt, kFmt, pkS, kI2, kAbs, okq, eqv, okqs, eqvs, kCat, dsOf_map, nostos_d, fzs_d, dChn, dRaise0, dRaise, dTryAs, dCallH, kIsX, dXf, kXf, dChN, dChT, dLinks, dBits, dIxMv, subX_ce, isExn, suE, dropX, dropO, keepX, nox, noxs, List.map_cons, List.map_nil, List.any_cons, List.any_nil, List.getElem?_cons_zero, List.getElem?_cons_succ, List.set_cons_zero, List.set_cons_succ, List.length_cons, List.length_nil, Option.bind_some, Option.map_some, if_true, if_false, Bool.false_eq_true, decide_eq_true_eq, true_and, List.length_map, Bool.not_true, Bool.not_false, Bool.not_eq_true', decide_eq_false_iff_not, Bool.false_bne, eq_self, beq_self_eq_true, Bool.true_bne, ite_self, reduceCtorEq, clear, clears, flatL, Bool.and_self, S__law_same]
      walk_at "crunch"
      refine ⟨_, rfl, rfl, by show 1 + (1 + (1 + 0)) ≤ 39999; omega, ?_⟩
      try simp only [dSeq, dNext, dIf, dOrT, dAndT, dNotT, dBl, kBl, dTru, kTru, DL.truD, dOp, dCl, s1, s2, dCons, dNil, dVar, dMov, dC, kLenN, peek, lenW, noDict, lenD, sCmp, sOrd, sEq, kEq, sIn, sIsN, nonW, sInt, sAdd, sMul, sRows, rowD, flat, dsOf, seqW, dRet, dRetN, dDrop, dBrk, dCnt, dAsg, gN, gTp, gsCons, gsNil, DL.gSub, setW, useW, useWs, useD, nosto, nostos, fz, fzs, dCall, dCall0, argsD, argD, dLst, dTup, dIte, dAnd, dOr, dNot, dNeg, dBm, isTy, mApp, sIx, kItem, rowOf, dSl, kSl, dNo, dSo, kInt, kStr, kRepr, kListOf, kIsi, tyN, dFor, dRow, dRng1, dRng2, dComp, wipeE, dYes, dJoin, dJs, dFmt, kFmt, pkS, kI2, kAbs, okq, eqv, okqs, eqvs, kCat, dsOf_map, nostos_d, fzs_d, dChn, dRaise0, dRaise, dTryAs, dCallH, kIsX, dXf, kXf, dChN, dChT, dLinks, dBits, dIxMv, subX_ce, isExn, suE, dropX, dropO, keepX, nox, noxs, List.map_cons, List.map_nil, List.any_cons, List.any_nil, List.getElem?_cons_zero, List.getElem?_cons_succ, List.set_cons_zero, List.set_cons_succ, List.length_cons, List.length_nil, Option.bind_some, Option.map_some, if_true, if_false, Bool.false_eq_true, decide_eq_true_eq, true_and, List.length_map, Bool.not_true, Bool.not_false, Bool.not_eq_true', decide_eq_false_iff_not, Bool.false_bne, eq_self, beq_self_eq_true, Bool.true_bne, ite_self, reduceCtorEq, clear, clears, flatL, Bool.and_self]
      walk_at "crunch"
      exact h _ _
  · suffices main : t_law_10_2 E kf0 [some sc, some .sto, some (.d (.int c)), some (.ol [.d (.str tRef), .d (.bl true), .ol [.d (.str tBadNumber)], .d (.lst [])]), none, none, none, none, none, none, none, none, none, o13] by
      walk_at "crunch"
      all_goals first | exact main | (exfalso; omega)
    simp only [t_law_10_2, dSeq, dNext, dIf, dOrT, dAndT, dNotT, dBl, kBl, dTru, kTru, DL.truD, dOp, dCl, s1, s2, dCons, dNil, dVar, dMov, dC, kLenN, peek, lenW, noDict, lenD, sCmp, sOrd, sEq, kEq, sIn, sIsN, nonW, sInt, sAdd, sMul, sRows, rowD, flat, dsOf, seqW, dRet, dRetN, dDrop, dBrk, dCnt, dAsg, gN, gTp, gsCons, gsNil, DL.gSub, setW, useW, useWs, useD, nosto, nostos, fz, fzs, dCall, dCall0, argsD, argD, dLst, dTup, dIte, dAnd, dOr, dNot, dNeg, dBm, isTy, mApp, sIx, kItem, rowOf, dSl, kSl, dNo, dSo, kInt, kStr, kRepr, kListOf, kIsi, tyN, dFor, dRow, dRng1, dRng2, dComp, wipeE, dYes, dJoin, dJs, dFmt, kFmt, pkS, kI2, kAbs, okq, eqv, okqs, eqvs, kCat, dsOf_map, nostos_d, fzs_d, dChn, dRaise0, dRaise, dTryAs, dCallH, kIsX, dXf, kXf, dChN, dChT, dLinks, dBits, dIxMv, subX_ce, isExn, suE, dropX, dropO, keepX, nox, noxs, List.map_cons, List.map_nil, List.any_cons, List.any_nil, List.getElem?_cons_zero, List.getElem?_cons_succ, List.set_cons_zero, List.set_cons_succ, List.length_cons, List.length_nil, Option.bind_some, Option.map_some, if_true, if_false, Bool.false_eq_true, decide_eq_true_eq, true_and, List.length_map, Bool.not_true, Bool.not_false, Bool.not_eq_true', decide_eq_false_iff_not, Bool.false_bne, eq_self, beq_self_eq_true, Bool.true_bne, ite_self, reduceCtorEq, S__law_levels]
    refine ⟨c, rfl, ?_⟩
    rw [if_neg hv]
    simp only [caughtW, dSeq, dNext, dIf, dOrT, dAndT, dNotT, dBl, kBl, dTru, kTru, DL.truD, dOp, dCl, s1, s2, dCons, dNil, dVar, dMov, dC, kLenN, peek, lenW, noDict, lenD, sCmp, sOrd, sEq, kEq, sIn, sIsN, nonW, sInt, sAdd, sMul, sRows, rowD, flat, dsOf, seqW, dRet, dRetN, dDrop, dBrk, dCnt, dAsg, gN, gTp, gsCons, gsNil, DL.gSub, setW, useW, useWs, useD, nosto, nostos, fz, fzs, dCall, dCall0, argsD, argD, dLst, dTup, dIte, dAnd, dOr, dNot, dNeg, dBm, isTy, mApp, sIx, kItem, rowOf, dSl, kSl, dNo, dSo, kInt, kStr, kRepr, kListOf, kIsi, tyN, dFor, dRow, dRng1, dRng2, dComp, wipeE, dYes, dJoin, dJs, dFmt, kFmt, pkS, kI2, kAbs, okq, eqv, okqs, eqvs, kCat, dsOf_map, nostos_d, fzs_d, dChn, dRaise0, dRaise, dTryAs, dCallH, kIsX, dXf, kXf, dChN, dChT, dLinks, dBits, dIxMv, subX_ce, isExn, suE, dropX, dropO, keepX, nox, noxs, List.map_cons, List.map_nil, List.any_cons, List.any_nil, List.getElem?_cons_zero, List.getElem?_cons_succ, List.set_cons_zero, List.set_cons_succ, List.length_cons, List.length_nil, Option.bind_some, Option.map_some, if_true, if_false, Bool.false_eq_true, decide_eq_true_eq, true_and, List.length_map, Bool.not_true, Bool.not_false, Bool.not_eq_true', decide_eq_false_iff_not, Bool.false_bne, eq_self, beq_self_eq_true, Bool.true_bne, ite_self, reduceCtorEq, clear, clears, flatL, Bool.and_self, S__law_same]
    walk_at "crunch"
    refine ⟨_, rfl, by decide +kernel, by decide +kernel, ?_⟩
    try simp only [dSeq, dNext, dIf, dOrT, dAndT, dNotT, dBl, kBl, dTru, kTru, DL.truD, dOp, dCl, s1, s2, dCons, dNil, dVar, dMov, dC, kLenN, peek, lenW, noDict, lenD, sCmp, sOrd, sEq, kEq, sIn, sIsN, nonW, sInt, sAdd, sMul, sRows, rowD, flat, dsOf, seqW, dRet, dRetN, dDrop, dBrk, dCnt, dAsg, gN, gTp, gsCons, gsNil, DL.gSub, setW, useW, useWs, useD, nosto, nostos, fz, fzs, dCall, dCall0, argsD, argD, dLst, dTup, dIte, dAnd, dOr, dNot, dNeg, dBm, isTy, mApp, sIx, kItem, rowOf, dSl, kSl, dNo, dSo, kInt, kStr, kRepr, kListOf, kIsi, tyN, dFor, dRow, dRng1, dRng2, dComp, wipeE, dYes, dJoin, dJs, dFmt, kFmt, pkS, kI2, kAbs, okq, eqv, okqs, eqvs, kCat, dsOf_map, nostos_d, fzs_d, dChn, dRaise0, dRaise, dTryAs, dCallH, kIsX, dXf, kXf, dChN, dChT, dLinks, dBits, dIxMv, subX_ce, isExn, suE, dropX, dropO, keepX, nox, noxs, List.map_cons, List.map_nil, List.any_cons, List.any_nil, List.getElem?_cons_zero, List.getElem?_cons_succ, List.set_cons_zero, List.set_cons_succ, List.length_cons, List.length_nil, Option.bind_some, Option.map_some, if_true, if_false, Bool.false_eq_true, decide_eq_true_eq, true_and, List.length_map, Bool.not_true, Bool.not_false, Bool.not_eq_true', decide_eq_false_iff_not, Bool.false_bne, eq_self, beq_self_eq_true, Bool.true_bne, ite_self, reduceCtorEq, clear, clears, flatL, Bool.and_self]
    walk_at "crunch"
    exact h _ _
theorem law_end {sc : W} {c lo hi : Int} {o3 o6 o7 o8 o9 o10 o11 o13 : Option W} (v : 0 ≤ lo ∧ lo < hi ∧ hi ≤ c ∧ c ≤ 16) :
    t_law_0_6 trueE kf0 [some sc, some .sto, some (.d (.int c)), o3, some (.d (.int lo)), some (.d (.int hi)), o6, o7, o8, o9, o10, o11, none, o13] := by
  simp only [t_law_0_6, dSeq, dNext, dIf, dOrT, dAndT, dNotT, dBl, kBl, dTru, kTru, DL.truD, dOp, dCl, s1, s2, dCons, dNil, dVar, dMov, dC, kLenN, peek, lenW, noDict, lenD, sCmp, sOrd, sEq, kEq, sIn, sIsN, nonW, sInt, sAdd, sMul, sRows, rowD, flat, dsOf, seqW, dRet, dRetN, dDrop, dBrk, dCnt, dAsg, gN, gTp, gsCons, gsNil, DL.gSub, setW, useW, useWs, useD, nosto, nostos, fz, fzs, dCall, dCall0, argsD, argD, dLst, dTup, dIte, dAnd, dOr, dNot, dNeg, dBm, isTy, mApp, sIx, kItem, rowOf, dSl, kSl, dNo, dSo, kInt, kStr, kRepr, kListOf, kIsi, tyN, dFor, dRow, dRng1, dRng2, dComp, wipeE, dYes, dJoin, dJs, dFmt, kFmt, pkS, kI2, kAbs, okq, eqv, okqs, eqvs, kCat, dsOf_map, nostos_d, fzs_d, dChn, dRaise0, dRaise, dTryAs, dCallH, kIsX, dXf, kXf, dChN, dChT, dLinks, dBits, dIxMv, subX_ce, isExn, suE, dropX, dropO, keepX, nox, noxs, List.map_cons, List.map_nil, List.any_cons, List.any_nil, List.getElem?_cons_zero, List.getElem?_cons_succ, List.set_cons_zero, List.set_cons_succ, List.length_cons, List.length_nil, Option.bind_some, Option.map_some, if_true, if_false, Bool.false_eq_true, decide_eq_true_eq, true_and, List.length_map, Bool.not_true, Bool.not_false, Bool.not_eq_true', decide_eq_false_iff_not, Bool.false_bne, eq_self, beq_self_eq_true, Bool.true_bne, ite_self, reduceCtorEq, S__law_answer]
  refine ⟨c, lo, hi, rfl, ?_⟩
  rw [if_pos v]
  simp only [dSeq, dNext, dIf, dOrT, dAndT, dNotT, dBl, kBl, dTru, kTru, DL.truD, dOp, dCl, s1, s2, dCons, dNil, dVar, dMov, dC, kLenN, peek, lenW, noDict, lenD, sCmp, sOrd, sEq, kEq, sIn, sIsN, nonW, sInt, sAdd, sMul, sRows, rowD, flat, dsOf, seqW, dRet, dRetN, dDrop, dBrk, dCnt, dAsg, gN, gTp, gsCons, gsNil, DL.gSub, setW, useW, useWs, useD, nosto, nostos, fz, fzs, dCall, dCall0, argsD, argD, dLst, dTup, dIte, dAnd, dOr, dNot, dNeg, dBm, isTy, mApp, sIx, kItem, rowOf, dSl, kSl, dNo, dSo, kInt, kStr, kRepr, kListOf, kIsi, tyN, dFor, dRow, dRng1, dRng2, dComp, wipeE, dYes, dJoin, dJs, dFmt, kFmt, pkS, kI2, kAbs, okq, eqv, okqs, eqvs, kCat, dsOf_map, nostos_d, fzs_d, dChn, dRaise0, dRaise, dTryAs, dCallH, kIsX, dXf, kXf, dChN, dChT, dLinks, dBits, dIxMv, subX_ce, isExn, suE, dropX, dropO, keepX, nox, noxs, List.map_cons, List.map_nil, List.any_cons, List.any_nil, List.getElem?_cons_zero, List.getElem?_cons_succ, List.set_cons_zero, List.set_cons_succ, List.length_cons, List.length_nil, Option.bind_some, Option.map_some, if_true, if_false, Bool.false_eq_true, decide_eq_true_eq, true_and, List.length_map, Bool.not_true, Bool.not_false, Bool.not_eq_true', decide_eq_false_iff_not, Bool.false_bne, eq_self, beq_self_eq_true, Bool.true_bne, ite_self, reduceCtorEq, clear, clears, flatL, Bool.and_self, spans_cl, spans_no, spans_fz, S__law_right]
  walk_at "crunch"
  refine ⟨_, lo, hi, rfl, chk_ok v.1 v.2.1 (by omega), ?_⟩
  try simp only [dSeq, dNext, dIf, dOrT, dAndT, dNotT, dBl, kBl, dTru, kTru, DL.truD, dOp, dCl, s1, s2, dCons, dNil, dVar, dMov, dC, kLenN, peek, lenW, noDict, lenD, sCmp, sOrd, sEq, kEq, sIn, sIsN, nonW, sInt, sAdd, sMul, sRows, rowD, flat, dsOf, seqW, dRet, dRetN, dDrop, dBrk, dCnt, dAsg, gN, gTp, gsCons, gsNil, DL.gSub, setW, useW, useWs, useD, nosto, nostos, fz, fzs, dCall, dCall0, argsD, argD, dLst, dTup, dIte, dAnd, dOr, dNot, dNeg, dBm, isTy, mApp, sIx, kItem, rowOf, dSl, kSl, dNo, dSo, kInt, kStr, kRepr, kListOf, kIsi, tyN, dFor, dRow, dRng1, dRng2, dComp, wipeE, dYes, dJoin, dJs, dFmt, kFmt, pkS, kI2, kAbs, okq, eqv, okqs, eqvs, kCat, dsOf_map, nostos_d, fzs_d, dChn, dRaise0, dRaise, dTryAs, dCallH, kIsX, dXf, kXf, dChN, dChT, dLinks, dBits, dIxMv, subX_ce, isExn, suE, dropX, dropO, keepX, nox, noxs, List.map_cons, List.map_nil, List.any_cons, List.any_nil, List.getElem?_cons_zero, List.getElem?_cons_succ, List.set_cons_zero, List.set_cons_succ, List.length_cons, List.length_nil, Option.bind_some, Option.map_some, if_true, if_false, Bool.false_eq_true, decide_eq_true_eq, true_and, List.length_map, Bool.not_true, Bool.not_false, Bool.not_eq_true', decide_eq_false_iff_not, Bool.false_bne, eq_self, beq_self_eq_true, Bool.true_bne, ite_self, reduceCtorEq, clear, clears, flatL, Bool.and_self, trueE]
  walk_at "crunch"
/-- one turn of the last loop -/
theorem last_turn {sc : W} {c lo hi i : Int} {E : DEnds} {o3 o6 o7 o8 o9 o10 o11 o13 : Option W} (v : 0 ≤ lo ∧ lo < hi ∧ hi ≤ c ∧ c ≤ 16) (h : ∀ o7 o8 o9 o10 o11, E.nx [some sc, some .sto, some (.d (.int c)), o3, some (.d (.int lo)), some (.d (.int hi)), o6, o7, o8, o9, o10, o11, none, o13]) :
    t_law_1_0 E kf0 [some sc, some .sto, some (.d (.int c)), o3, some (.d (.int lo)), some (.d (.int hi)), o6, o7, o8, o9, o10, o11, none, o13] := by
  simp only [t_law_1_0, dSeq, dNext, dIf, dOrT, dAndT, dNotT, dBl, kBl, dTru, kTru, DL.truD, dOp, dCl, s1, s2, dCons, dNil, dVar, dMov, dC, kLenN, peek, lenW, noDict, lenD, sCmp, sOrd, sEq, kEq, sIn, sIsN, nonW, sInt, sAdd, sMul, sRows, rowD, flat, dsOf, seqW, dRet, dRetN, dDrop, dBrk, dCnt, dAsg, gN, gTp, gsCons, gsNil, DL.gSub, setW, useW, useWs, useD, nosto, nostos, fz, fzs, dCall, dCall0, argsD, argD, dLst, dTup, dIte, dAnd, dOr, dNot, dNeg, dBm, isTy, mApp, sIx, kItem, rowOf, dSl, kSl, dNo, dSo, kInt, kStr, kRepr, kListOf, kIsi, tyN, dFor, dRow, dRng1, dRng2, dComp, wipeE, dYes, dJoin, dJs, dFmt, kFmt, pkS, kI2, kAbs, okq, eqv, okqs, eqvs, kCat, dsOf_map, nostos_d, fzs_d, dChn, dRaise0, dRaise, dTryAs, dCallH, kIsX, dXf, kXf, dChN, dChT, dLinks, dBits, dIxMv, subX_ce, isExn, suE, dropX, dropO, keepX, nox, noxs, List.map_cons, List.map_nil, List.any_cons, List.any_nil, List.getElem?_cons_zero, List.getElem?_cons_succ, List.set_cons_zero, List.set_cons_succ, List.length_cons, List.length_nil, Option.bind_some, Option.map_some, if_true, if_false, Bool.false_eq_true, decide_eq_true_eq, true_and, List.length_map, Bool.not_true, Bool.not_false, Bool.not_eq_true', decide_eq_false_iff_not, Bool.false_bne, eq_self, beq_self_eq_true, Bool.true_bne, ite_self, reduceCtorEq, S__law_triple]
  refine ⟨c, rfl, by omega, by omega, fun a b d => ?_⟩
  try simp only [dSeq, dNext, dIf, dOrT, dAndT, dNotT, dBl, kBl, dTru, kTru, DL.truD, dOp, dCl, s1, s2, dCons, dNil, dVar, dMov, dC, kLenN, peek, lenW, noDict, lenD, sCmp, sOrd, sEq, kEq, sIn, sIsN, nonW, sInt, sAdd, sMul, sRows, rowD, flat, dsOf, seqW, dRet, dRetN, dDrop, dBrk, dCnt, dAsg, gN, gTp, gsCons, gsNil, DL.gSub, setW, useW, useWs, useD, nosto, nostos, fz, fzs, dCall, dCall0, argsD, argD, dLst, dTup, dIte, dAnd, dOr, dNot, dNeg, dBm, isTy, mApp, sIx, kItem, rowOf, dSl, kSl, dNo, dSo, kInt, kStr, kRepr, kListOf, kIsi, tyN, dFor, dRow, dRng1, dRng2, dComp, wipeE, dYes, dJoin, dJs, dFmt, kFmt, pkS, kI2, kAbs, okq, eqv, okqs, eqvs, kCat, dsOf_map, nostos_d, fzs_d, dChn, dRaise0, dRaise, dTryAs, dCallH, kIsX, dXf, kXf, dChN, dChT, dLinks, dBits, dIxMv, subX_ce, isExn, suE, dropX, dropO, keepX, nox, noxs, List.map_cons, List.map_nil, List.any_cons, List.any_nil, List.getElem?_cons_zero, List.getElem?_cons_succ, List.set_cons_zero, List.set_cons_succ, List.length_cons, List.length_nil, Option.bind_some, Option.map_some, if_true, if_false, Bool.false_eq_true, decide_eq_true_eq, true_and, List.length_map, Bool.not_true, Bool.not_false, Bool.not_eq_true', decide_eq_false_iff_not, Bool.false_bne, eq_self, beq_self_eq_true, Bool.true_bne, ite_self, reduceCtorEq, clear, clears, flatL, Bool.and_self]
  walk_at "crunch"
  -- behind the question
  have tail : ∀ o10, t_law_1_3 E kf0 [some sc, some .sto, some (.d (.int c)), o3, some (.d (.int lo)), some (.d (.int hi)), o6, some (.d (.int a)), some (.d (.int b)), some (.d (.int d)), o10, o11, none, o13] := by
    intro o10
    simp only [t_law_1_3, dSeq, dNext, dIf, dOrT, dAndT, dNotT, dBl, kBl, dTru, kTru, DL.truD, dOp, dCl, s1, s2, dCons, dNil, dVar, dMov, dC, kLenN, peek, lenW, noDict, lenD, sCmp, sOrd, sEq, kEq, sIn, sIsN, nonW, sInt, sAdd, sMul, sRows, rowD, flat, dsOf, seqW, dRet, dRetN, dDrop, dBrk, dCnt, dAsg, gN, gTp, gsCons, gsNil, DL.gSub, setW, useW, useWs, useD, nosto, nostos, fz, fzs, dCall, dCall0, argsD, argD, dLst, dTup, dIte, dAnd, dOr, dNot, dNeg, dBm, isTy, mApp, sIx, kItem, rowOf, dSl, kSl, dNo, dSo, kInt, kStr, kRepr, kListOf, kIsi, tyN, dFor, dRow, dRng1, dRng2, dComp, wipeE, dYes, dJoin, dJs, dFmt, kFmt, pkS, kI2, kAbs, okq, eqv, okqs, eqvs, kCat, dsOf_map, nostos_d, fzs_d, dChn, dRaise0, dRaise, dTryAs, dCallH, kIsX, dXf, kXf, dChN, dChT, dLinks, dBits, dIxMv, subX_ce, isExn, suE, dropX, dropO, keepX, nox, noxs, List.map_cons, List.map_nil, List.any_cons, List.any_nil, List.getElem?_cons_zero, List.getElem?_cons_succ, List.set_cons_zero, List.set_cons_succ, List.length_cons, List.length_nil, Option.bind_some, Option.map_some, if_true, if_false, Bool.false_eq_true, decide_eq_true_eq, true_and, List.length_map, Bool.not_true, Bool.not_false, Bool.not_eq_true', decide_eq_false_iff_not, Bool.false_bne, eq_self, beq_self_eq_true, Bool.true_bne, ite_self, reduceCtorEq, S__law_answer]
    refine ⟨c, lo, hi, rfl, ?_⟩
    rw [if_pos v]
    simp only [dSeq, dNext, dIf, dOrT, dAndT, dNotT, dBl, kBl, dTru, kTru, DL.truD, dOp, dCl, s1, s2, dCons, dNil, dVar, dMov, dC, kLenN, peek, lenW, noDict, lenD, sCmp, sOrd, sEq, kEq, sIn, sIsN, nonW, sInt, sAdd, sMul, sRows, rowD, flat, dsOf, seqW, dRet, dRetN, dDrop, dBrk, dCnt, dAsg, gN, gTp, gsCons, gsNil, DL.gSub, setW, useW, useWs, useD, nosto, nostos, fz, fzs, dCall, dCall0, argsD, argD, dLst, dTup, dIte, dAnd, dOr, dNot, dNeg, dBm, isTy, mApp, sIx, kItem, rowOf, dSl, kSl, dNo, dSo, kInt, kStr, kRepr, kListOf, kIsi, tyN, dFor, dRow, dRng1, dRng2, dComp, wipeE, dYes, dJoin, dJs, dFmt, kFmt, pkS, kI2, kAbs, okq, eqv, okqs, eqvs, kCat, dsOf_map, nostos_d, fzs_d, dChn, dRaise0, dRaise, dTryAs, dCallH, kIsX, dXf, kXf, dChN, dChT, dLinks, dBits, dIxMv, subX_ce, isExn, suE, dropX, dropO, keepX, nox, noxs, List.map_cons, List.map_nil, List.any_cons, List.any_nil, List.getElem?_cons_zero, List.getElem?_cons_succ, List.set_cons_zero, List.set_cons_succ, List.length_cons, List.length_nil, Option.bind_some, Option.map_some, if_true, if_false, Bool.false_eq_true, decide_eq_true_eq, true_and, List.length_map, Bool.not_true, Bool.not_false, Bool.not_eq_true', decide_eq_false_iff_not, Bool.false_bne, eq_self, beq_self_eq_true, Bool.true_bne, ite_self, reduceCtorEq, clear, clears, flatL, Bool.and_self, spans_cl, spans_no]
    walk_at "crunch"
    simp only [t_law_1_4, dSeq, dNext, dIf, dOrT, dAndT, dNotT, dBl, kBl, dTru, kTru, DL.truD, dOp, dCl, s1, s2, dCons, dNil, dVar, dMov, dC, kLenN, peek, lenW, noDict, lenD, sCmp, sOrd, sEq, kEq, sIn, sIsN, nonW, sInt, sAdd, sMul, sRows, rowD, flat, dsOf, seqW, dRet, dRetN, dDrop, dBrk, dCnt, dAsg, gN, gTp, gsCons, gsNil, DL.gSub, setW, useW, useWs, useD, nosto, nostos, fz, fzs, dCall, dCall0, argsD, argD, dLst, dTup, dIte, dAnd, dOr, dNot, dNeg, dBm, isTy, mApp, sIx, kItem, rowOf, dSl, kSl, dNo, dSo, kInt, kStr, kRepr, kListOf, kIsi, tyN, dFor, dRow, dRng1, dRng2, dComp, wipeE, dYes, dJoin, dJs, dFmt, kFmt, pkS, kI2, kAbs, okq, eqv, okqs, eqvs, kCat, dsOf_map, nostos_d, fzs_d, dChn, dRaise0, dRaise, dTryAs, dCallH, kIsX, dXf, kXf, dChN, dChT, dLinks, dBits, dIxMv, subX_ce, isExn, suE, dropX, dropO, keepX, nox, noxs, List.map_cons, List.map_nil, List.any_cons, List.any_nil, List.getElem?_cons_zero, List.getElem?_cons_succ, List.set_cons_zero, List.set_cons_succ, List.length_cons, List.length_nil, Option.bind_some, Option.map_some, if_true, if_false, Bool.false_eq_true, decide_eq_true_eq, true_and, List.length_map, Bool.not_true, Bool.not_false, Bool.not_eq_true', decide_eq_false_iff_not, Bool.false_bne, eq_self, beq_self_eq_true, Bool.true_bne, ite_self, reduceCtorEq, spans_no, spans_fz, S__law_right]
    walk_at "crunch"
    refine ⟨_, lo, hi, rfl, chk_ok v.1 v.2.1 (by omega), ?_⟩
    try simp only [dSeq, dNext, dIf, dOrT, dAndT, dNotT, dBl, kBl, dTru, kTru, DL.truD, dOp, dCl, s1, s2, dCons, dNil, dVar, dMov, dC, kLenN, peek, lenW, noDict, lenD, sCmp, sOrd, sEq, kEq, sIn, sIsN, nonW, sInt, sAdd, sMul, sRows, rowD, flat, dsOf, seqW, dRet, dRetN, dDrop, dBrk, dCnt, dAsg, gN, gTp, gsCons, gsNil, DL.gSub, setW, useW, useWs, useD, nosto, nostos, fz, fzs, dCall, dCall0, argsD, argD, dLst, dTup, dIte, dAnd, dOr, dNot, dNeg, dBm, isTy, mApp, sIx, kItem, rowOf, dSl, kSl, dNo, dSo, kInt, kStr, kRepr, kListOf, kIsi, tyN, dFor, dRow, dRng1, dRng2, dComp, wipeE, dYes, dJoin, dJs, dFmt, kFmt, pkS, kI2, kAbs, okq, eqv, okqs, eqvs, kCat, dsOf_map, nostos_d, fzs_d, dChn, dRaise0, dRaise, dTryAs, dCallH, kIsX, dXf, kXf, dChN, dChT, dLinks, dBits, dIxMv, subX_ce, isExn, suE, dropX, dropO, keepX, nox, noxs, List.map_cons, List.map_nil, List.any_cons, List.any_nil, List.getElem?_cons_zero, List.getElem?_cons_succ, List.set_cons_zero, List.set_cons_succ, List.length_cons, List.length_nil, Option.bind_some, Option.map_some, if_true, if_false, Bool.false_eq_true, decide_eq_true_eq, true_and, List.length_map, Bool.not_true, Bool.not_false, Bool.not_eq_true', decide_eq_false_iff_not, Bool.false_bne, eq_self, beq_self_eq_true, Bool.true_bne, ite_self, reduceCtorEq, clear, clears, flatL, Bool.and_self]
    walk_at "crunch"
    simp only [t_law_1_5, dSeq, dNext, dIf, dOrT, dAndT, dNotT, dBl, kBl, dTru, kTru, DL.truD, dOp, dCl, s1, s2, dCons, dNil, dVar, dMov, dC, kLenN, peek, lenW, noDict, lenD, sCmp, sOrd, sEq, kEq, sIn, sIsN, nonW, sInt, sAdd, sMul, sRows, rowD, flat, dsOf, seqW, dRet, dRetN, dDrop, dBrk, dCnt, dAsg, gN, gTp, gsCons, gsNil, DL.gSub, setW, useW, useWs, useD, nosto, nostos, fz, fzs, dCall, dCall0, argsD, argD, dLst, dTup, dIte, dAnd, dOr, dNot, dNeg, dBm, isTy, mApp, sIx, kItem, rowOf, dSl, kSl, dNo, dSo, kInt, kStr, kRepr, kListOf, kIsi, tyN, dFor, dRow, dRng1, dRng2, dComp, wipeE, dYes, dJoin, dJs, dFmt, kFmt, pkS, kI2, kAbs, okq, eqv, okqs, eqvs, kCat, dsOf_map, nostos_d, fzs_d, dChn, dRaise0, dRaise, dTryAs, dCallH, kIsX, dXf, kXf, dChN, dChT, dLinks, dBits, dIxMv, subX_ce, isExn, suE, dropX, dropO, keepX, nox, noxs, List.map_cons, List.map_nil, List.any_cons, List.any_nil, List.getElem?_cons_zero, List.getElem?_cons_succ, List.set_cons_zero, List.set_cons_succ, List.length_cons, List.length_nil, Option.bind_some, Option.map_some, if_true, if_false, Bool.false_eq_true, decide_eq_true_eq, true_and, List.length_map, Bool.not_true, Bool.not_false, Bool.not_eq_true', decide_eq_false_iff_not, Bool.false_bne, eq_self, beq_self_eq_true, Bool.true_bne, ite_self, reduceCtorEq, spans_no]
    walk_at "crunch"
    obtain ⟨p, ps, ep⟩ : ∃ p ps, (spans 16 lo hi).map spanW = p :: ps := by
      have e : spans 16 lo hi = (lo, lo + gs 5 lo hi 1) :: spans 15 (lo + gs 5 lo hi 1) hi := by
        show (if lo < hi then _ else _) = _
        rw [if_pos v.2.1]
      rw [e]
      exact ⟨_, _, rfl⟩
    have el : (p :: ps).length ≤ 16 := by
      rw [← ep, List.length_map]
      have key : ∀ (n : Nat) (st : Int), (spans n st hi).length ≤ n := by
        intro n
        induction n with
        | zero => intro st; exact Nat.le_refl _
        | succ n ih =>
          intro st
          show (if st < hi then (st, st + gs 5 st hi 1) :: spans n (st + gs 5 st hi 1) hi else []).length ≤ _
          split
          · exact Nat.succ_le_succ (ih _)
          · exact Nat.zero_le _
      exact key 16 lo
    rw [ep]
    simp only [t_law_1_6, dSeq, dNext, dIf, dOrT, dAndT, dNotT, dBl, kBl, dTru, kTru, DL.truD, dOp, dCl, s1, s2, dCons, dNil, dVar, dMov, dC, kLenN, peek, lenW, noDict, lenD, sCmp, sOrd, sEq, kEq, sIn, sIsN, nonW, sInt, sAdd, sMul, sRows, rowD, flat, dsOf, seqW, dRet, dRetN, dDrop, dBrk, dCnt, dAsg, gN, gTp, gsCons, gsNil, DL.gSub, setW, useW, useWs, useD, nosto, nostos, fz, fzs, dCall, dCall0, argsD, argD, dLst, dTup, dIte, dAnd, dOr, dNot, dNeg, dBm, isTy, mApp, sIx, kItem, rowOf, dSl, kSl, dNo, dSo, kInt, kStr, kRepr, kListOf, kIsi, tyN, dFor, dRow, dRng1, dRng2, dComp, wipeE, dYes, dJoin, dJs, dFmt, kFmt, pkS, kI2, kAbs, okq, eqv, okqs, eqvs, kCat, dsOf_map, nostos_d, fzs_d, dChn, dRaise0, dRaise, dTryAs, dCallH, kIsX, dXf, kXf, dChN, dChT, dLinks, dBits, dIxMv, subX_ce, isExn, suE, dropX, dropO, keepX, nox, noxs, List.map_cons, List.map_nil, List.any_cons, List.any_nil, List.getElem?_cons_zero, List.getElem?_cons_succ, List.set_cons_zero, List.set_cons_succ, List.length_cons, List.length_nil, Option.bind_some, Option.map_some, if_true, if_false, Bool.false_eq_true, decide_eq_true_eq, true_and, List.length_map, Bool.not_true, Bool.not_false, Bool.not_eq_true', decide_eq_false_iff_not, Bool.false_bne, eq_self, beq_self_eq_true, Bool.true_bne, ite_self, reduceCtorEq, useWs]
    have l1 : (p :: ps).length < sizeLine := szl' (by omega)
    simp only [List.length_cons] at l1
    refine ⟨szl (by decide), rfl, l1, ?_⟩
    have ix : L2.ixN (p :: ps ++ [W.ot [.d (.int hi), .d (.int (hi + 1))]]).length 0 = some 0 := by unfold L2.ixN; simp; omega
    simp only [t_law_1_7, dSeq, dNext, dIf, dOrT, dAndT, dNotT, dBl, kBl, dTru, kTru, DL.truD, dOp, dCl, s1, s2, dCons, dNil, dVar, dMov, dC, kLenN, peek, lenW, noDict, lenD, sCmp, sOrd, sEq, kEq, sIn, sIsN, nonW, sInt, sAdd, sMul, sRows, rowD, flat, dsOf, seqW, dRet, dRetN, dDrop, dBrk, dCnt, dAsg, gN, gTp, gsCons, gsNil, DL.gSub, setW, useW, useWs, useD, nosto, nostos, fz, fzs, dCall, dCall0, argsD, argD, dLst, dTup, dIte, dAnd, dOr, dNot, dNeg, dBm, isTy, mApp, sIx, kItem, rowOf, dSl, kSl, dNo, dSo, kInt, kStr, kRepr, kListOf, kIsi, tyN, dFor, dRow, dRng1, dRng2, dComp, wipeE, dYes, dJoin, dJs, dFmt, kFmt, pkS, kI2, kAbs, okq, eqv, okqs, eqvs, kCat, dsOf_map, nostos_d, fzs_d, dChn, dRaise0, dRaise, dTryAs, dCallH, kIsX, dXf, kXf, dChN, dChT, dLinks, dBits, dIxMv, subX_ce, isExn, suE, dropX, dropO, keepX, nox, noxs, List.map_cons, List.map_nil, List.any_cons, List.any_nil, List.getElem?_cons_zero, List.getElem?_cons_succ, List.set_cons_zero, List.set_cons_succ, List.length_cons, List.length_nil, Option.bind_some, Option.map_some, if_true, if_false, Bool.false_eq_true, decide_eq_true_eq, true_and, List.length_map, Bool.not_true, Bool.not_false, Bool.not_eq_true', decide_eq_false_iff_not, Bool.false_bne, eq_self, beq_self_eq_true, Bool.true_bne, ite_self, reduceCtorEq, useWs]
    refine ⟨szl (by decide), rfl, ?_⟩
    rw [ix]
    exact h _ _ _ _ _
  simp only [t_law_1_1, dSeq, dNext, dIf, dOrT, dAndT, dNotT, dBl, kBl, dTru, kTru, DL.truD, dOp, dCl, s1, s2, dCons, dNil, dVar, dMov, dC, kLenN, peek, lenW, noDict, lenD, sCmp, sOrd, sEq, kEq, sIn, sIsN, nonW, sInt, sAdd, sMul, sRows, rowD, flat, dsOf, seqW, dRet, dRetN, dDrop, dBrk, dCnt, dAsg, gN, gTp, gsCons, gsNil, DL.gSub, setW, useW, useWs, useD, nosto, nostos, fz, fzs, dCall, dCall0, argsD, argD, dLst, dTup, dIte, dAnd, dOr, dNot, dNeg, dBm, isTy, mApp, sIx, kItem, rowOf, dSl, kSl, dNo, dSo, kInt, kStr, kRepr, kListOf, kIsi, tyN, dFor, dRow, dRng1, dRng2, dComp, wipeE, dYes, dJoin, dJs, dFmt, kFmt, pkS, kI2, kAbs, okq, eqv, okqs, eqvs, kCat, dsOf_map, nostos_d, fzs_d, dChn, dRaise0, dRaise, dTryAs, dCallH, kIsX, dXf, kXf, dChN, dChT, dLinks, dBits, dIxMv, subX_ce, isExn, suE, dropX, dropO, keepX, nox, noxs, List.map_cons, List.map_nil, List.any_cons, List.any_nil, List.getElem?_cons_zero, List.getElem?_cons_succ, List.set_cons_zero, List.set_cons_succ, List.length_cons, List.length_nil, Option.bind_some, Option.map_some, if_true, if_false, Bool.false_eq_true, decide_eq_true_eq, true_and, List.length_map, Bool.not_true, Bool.not_false, Bool.not_eq_true', decide_eq_false_iff_not, Bool.false_bne, eq_self, beq_self_eq_true, Bool.true_bne, ite_self, reduceCtorEq, S__law_answer]
  refine ⟨a, b, d, rfl, ?_⟩
  by_cases hv : 0 ≤ b ∧ b < d ∧ d ≤ a ∧ a ≤ 16
  · rw [if_pos hv]
    simp only [dSeq, dNext, dIf, dOrT, dAndT, dNotT, dBl, kBl, dTru, kTru, DL.truD, dOp, dCl, s1, s2, dCons, dNil, dVar, dMov, dC, kLenN, peek, lenW, noDict, lenD, sCmp, sOrd, sEq, kEq, sIn, sIsN, nonW, sInt, sAdd, sMul, sRows, rowD, flat, dsOf, seqW, dRet, dRetN, dDrop, dBrk, dCnt, dAsg, gN, gTp, gsCons, gsNil, DL.gSub, setW, useW, useWs, useD, nosto, nostos, fz, fzs, dCall, dCall0, argsD, argD, dLst, dTup, dIte, dAnd, dOr, dNot, dNeg, dBm, isTy, mApp, sIx, kItem, rowOf, dSl, kSl, dNo, dSo, kInt, kStr, kRepr, kListOf, kIsi, tyN, dFor, dRow, dRng1, dRng2, dComp, wipeE, dYes, dJoin, dJs, dFmt, kFmt, pkS, kI2, kAbs, okq, eqv, okqs, eqvs, kCat, dsOf_map, nostos_d, fzs_d, dChn, dRaise0, dRaise, dTryAs, dCallH, kIsX, dXf, kXf, dChN, dChT, dLinks, dBits, dIxMv, subX_ce, isExn, suE, dropX, dropO, keepX, nox, noxs, List.map_cons, List.map_nil, List.any_cons, List.any_nil, List.getElem?_cons_zero, List.getElem?_cons_succ, List.set_cons_zero, List.set_cons_succ, List.length_cons, List.length_nil, Option.bind_some, Option.map_some, if_true, if_false, Bool.false_eq_true, decide_eq_true_eq, true_and, List.length_map, Bool.not_true, Bool.not_false, Bool.not_eq_true', decide_eq_false_iff_not, Bool.false_bne, eq_self, beq_self_eq_true, Bool.true_bne, ite_self, reduceCtorEq, clear, clears, flatL, Bool.and_self, spans_cl, spans_no]
    walk_at "crunch"
    suffices main : t_law_3_0 { nx := fun e1 => t_law_1_3 E kf0 e1, rt := E.rt, bk := E.bk, ct := E.ct } kf0 [some sc, some .sto, some (.d (.int c)), o3, some (.d (.int lo)), some (.d (.int hi)), o6, some (.d (.int a)), some (.d (.int b)), some (.d (.int d)), some (.ol [.d (.str tAns), .ol ((spans 16 b d).map spanW)]), o11, none, o13] by
      simp only [t_law_1_2, dSeq, dNext, dIf, dOrT, dAndT, dNotT, dBl, kBl, dTru, kTru, DL.truD, dOp, dCl, s1, s2, dCons, dNil, dVar, dMov, dC, kLenN, peek, lenW, noDict, lenD, sCmp, sOrd, sEq, kEq, sIn, sIsN, nonW, sInt, sAdd, sMul, sRows, rowD, flat, dsOf, seqW, dRet, dRetN, dDrop, dBrk, dCnt, dAsg, gN, gTp, gsCons, gsNil, DL.gSub, setW, useW, useWs, useD, nosto, nostos, fz, fzs, dCall, dCall0, argsD, argD, dLst, dTup, dIte, dAnd, dOr, dNot, dNeg, dBm, isTy, mApp, sIx, kItem, rowOf, dSl, kSl, dNo, dSo, kInt, kStr, kRepr, kListOf, kIsi, tyN, dFor, dRow, dRng1, dRng2, dComp, wipeE, dYes, dJoin, dJs, dFmt, kFmt, pkS, kI2, kAbs, okq, eqv, okqs, eqvs, kCat, dsOf_map, nostos_d, fzs_d, dChn, dRaise0, dRaise, dTryAs, dCallH, kIsX, dXf, kXf, dChN, dChT, dLinks, dBits, dIxMv, subX_ce, isExn, suE, dropX, dropO, keepX, nox, noxs, List.map_cons, List.map_nil, List.any_cons, List.any_nil, List.getElem?_cons_zero, List.getElem?_cons_succ, List.set_cons_zero, List.set_cons_succ, List.length_cons, List.length_nil, Option.bind_some, Option.map_some, if_true, if_false, Bool.false_eq_true, decide_eq_true_eq, true_and, List.length_map, Bool.not_true, Bool.not_false, Bool.not_eq_true', decide_eq_false_iff_not, Bool.false_bne, eq_self, beq_self_eq_true, Bool.true_bne, ite_self, reduceCtorEq]
      walk_at "crunch"
      all_goals first | exact main | (exfalso; omega)
    simp only [t_law_3_0, dSeq, dNext, dIf, dOrT, dAndT, dNotT, dBl, kBl, dTru, kTru, DL.truD, dOp, dCl, s1, s2, dCons, dNil, dVar, dMov, dC, kLenN, peek, lenW, noDict, lenD, sCmp, sOrd, sEq, kEq, sIn, sIsN, nonW, sInt, sAdd, sMul, sRows, rowD, flat, dsOf, seqW, dRet, dRetN, dDrop, dBrk, dCnt, dAsg, gN, gTp, gsCons, gsNil, DL.gSub, setW, useW, useWs, useD, nosto, nostos, fz, fzs, dCall, dCall0, argsD, argD, dLst, dTup, dIte, dAnd, dOr, dNot, dNeg, dBm, isTy, mApp, sIx, kItem, rowOf, dSl, kSl, dNo, dSo, kInt, kStr, kRepr, kListOf, kIsi, tyN, dFor, dRow, dRng1, dRng2, dComp, wipeE, dYes, dJoin, dJs, dFmt, kFmt, pkS, kI2, kAbs, okq, eqv, okqs, eqvs, kCat, dsOf_map, nostos_d, fzs_d, dChn, dRaise0, dRaise, dTryAs, dCallH, kIsX, dXf, kXf, dChN, dChT, dLinks, dBits, dIxMv, subX_ce, isExn, suE, dropX, dropO, keepX, nox, noxs, List.map_cons, List.map_nil, List.any_cons, List.any_nil, List.getElem?_cons_zero, List.getElem?_cons_succ, List.set_cons_zero, List.set_cons_succ, List.length_cons, List.length_nil, Option.bind_some, Option.map_some, if_true, if_false, Bool.false_eq_true, decide_eq_true_eq, true_and, List.length_map, Bool.not_true, Bool.not_false, Bool.not_eq_true', decide_eq_false_iff_not, Bool.false_bne, eq_self, beq_self_eq_true, Bool.true_bne, ite_self, reduceCtorEq, spans_no, spans_fz, S__law_right]
    walk_at "crunch"
    refine ⟨_, b, d, rfl, chk_ok hv.1 hv.2.1 (by omega), ?_⟩
    try simp only [dSeq, dNext, dIf, dOrT, dAndT, dNotT, dBl, kBl, dTru, kTru, DL.truD, dOp, dCl, s1, s2, dCons, dNil, dVar, dMov, dC, kLenN, peek, lenW, noDict, lenD, sCmp, sOrd, sEq, kEq, sIn, sIsN, nonW, sInt, sAdd, sMul, sRows, rowD, flat, dsOf, seqW, dRet, dRetN, dDrop, dBrk, dCnt, dAsg, gN, gTp, gsCons, gsNil, DL.gSub, setW, useW, useWs, useD, nosto, nostos, fz, fzs, dCall, dCall0, argsD, argD, dLst, dTup, dIte, dAnd, dOr, dNot, dNeg, dBm, isTy, mApp, sIx, kItem, rowOf, dSl, kSl, dNo, dSo, kInt, kStr, kRepr, kListOf, kIsi, tyN, dFor, dRow, dRng1, dRng2, dComp, wipeE, dYes, dJoin, dJs, dFmt, kFmt, pkS, kI2, kAbs, okq, eqv, okqs, eqvs, kCat, dsOf_map, nostos_d, fzs_d, dChn, dRaise0, dRaise, dTryAs, dCallH, kIsX, dXf, kXf, dChN, dChT, dLinks, dBits, dIxMv, subX_ce, isExn, suE, dropX, dropO, keepX, nox, noxs, List.map_cons, List.map_nil, List.any_cons, List.any_nil, List.getElem?_cons_zero, List.getElem?_cons_succ, List.set_cons_zero, List.set_cons_succ, List.length_cons, List.length_nil, Option.bind_some, Option.map_some, if_true, if_false, Bool.false_eq_true, decide_eq_true_eq, true_and, List.length_map, Bool.not_true, Bool.not_false, Bool.not_eq_true', decide_eq_false_iff_not, Bool.false_bne, eq_self, beq_self_eq_true, Bool.true_bne, ite_self, reduceCtorEq, clear, clears, flatL, Bool.and_self]
    walk_at "crunch"
    exact tail _
  · rw [if_neg hv]
    simp only [caughtW, dSeq, dNext, dIf, dOrT, dAndT, dNotT, dBl, kBl, dTru, kTru, DL.truD, dOp, dCl, s1, s2, dCons, dNil, dVar, dMov, dC, kLenN, peek, lenW, noDict, lenD, sCmp, sOrd, sEq, kEq, sIn, sIsN, nonW, sInt, sAdd, sMul, sRows, rowD, flat, dsOf, seqW, dRet, dRetN, dDrop, dBrk, dCnt, dAsg, gN, gTp, gsCons, gsNil, DL.gSub, setW, useW, useWs, useD, nosto, nostos, fz, fzs, dCall, dCall0, argsD, argD, dLst, dTup, dIte, dAnd, dOr, dNot, dNeg, dBm, isTy, mApp, sIx, kItem, rowOf, dSl, kSl, dNo, dSo, kInt, kStr, kRepr, kListOf, kIsi, tyN, dFor, dRow, dRng1, dRng2, dComp, wipeE, dYes, dJoin, dJs, dFmt, kFmt, pkS, kI2, kAbs, okq, eqv, okqs, eqvs, kCat, dsOf_map, nostos_d, fzs_d, dChn, dRaise0, dRaise, dTryAs, dCallH, kIsX, dXf, kXf, dChN, dChT, dLinks, dBits, dIxMv, subX_ce, isExn, suE, dropX, dropO, keepX, nox, noxs, List.map_cons, List.map_nil, List.any_cons, List.any_nil, List.getElem?_cons_zero, List.getElem?_cons_succ, List.set_cons_zero, List.set_cons_succ, List.length_cons, List.length_nil, Option.bind_some, Option.map_some, if_true, if_false, Bool.false_eq_true, decide_eq_true_eq, true_and, List.length_map, Bool.not_true, Bool.not_false, Bool.not_eq_true', decide_eq_false_iff_not, Bool.false_bne, eq_self, beq_self_eq_true, Bool.true_bne, ite_self, reduceCtorEq, clear, clears, flatL, Bool.and_self]
    walk_at "crunch"
    suffices main : t_law_5_0 { nx := fun e1 => t_law_1_3 E kf0 e1, rt := E.rt, bk := E.bk, ct := E.ct } kf0 [some sc, some .sto, some (.d (.int c)), o3, some (.d (.int lo)), some (.d (.int hi)), o6, some (.d (.int a)), some (.d (.int b)), some (.d (.int d)), some (caughtW "BadNumber"), o11, none, o13] by
      simp only [t_law_1_2, dSeq, dNext, dIf, dOrT, dAndT, dNotT, dBl, kBl, dTru, kTru, DL.truD, dOp, dCl, s1, s2, dCons, dNil, dVar, dMov, dC, kLenN, peek, lenW, noDict, lenD, sCmp, sOrd, sEq, kEq, sIn, sIsN, nonW, sInt, sAdd, sMul, sRows, rowD, flat, dsOf, seqW, dRet, dRetN, dDrop, dBrk, dCnt, dAsg, gN, gTp, gsCons, gsNil, DL.gSub, setW, useW, useWs, useD, nosto, nostos, fz, fzs, dCall, dCall0, argsD, argD, dLst, dTup, dIte, dAnd, dOr, dNot, dNeg, dBm, isTy, mApp, sIx, kItem, rowOf, dSl, kSl, dNo, dSo, kInt, kStr, kRepr, kListOf, kIsi, tyN, dFor, dRow, dRng1, dRng2, dComp, wipeE, dYes, dJoin, dJs, dFmt, kFmt, pkS, kI2, kAbs, okq, eqv, okqs, eqvs, kCat, dsOf_map, nostos_d, fzs_d, dChn, dRaise0, dRaise, dTryAs, dCallH, kIsX, dXf, kXf, dChN, dChT, dLinks, dBits, dIxMv, subX_ce, isExn, suE, dropX, dropO, keepX, nox, noxs, List.map_cons, List.map_nil, List.any_cons, List.any_nil, List.getElem?_cons_zero, List.getElem?_cons_succ, List.set_cons_zero, List.set_cons_succ, List.length_cons, List.length_nil, Option.bind_some, Option.map_some, if_true, if_false, Bool.false_eq_true, decide_eq_true_eq, true_and, List.length_map, Bool.not_true, Bool.not_false, Bool.not_eq_true', decide_eq_false_iff_not, Bool.false_bne, eq_self, beq_self_eq_true, Bool.true_bne, ite_self, reduceCtorEq]
      walk_at "crunch"
      all_goals first | exact main | (exfalso; omega)
    simp only [t_law_5_0, caughtW, dSeq, dNext, dIf, dOrT, dAndT, dNotT, dBl, kBl, dTru, kTru, DL.truD, dOp, dCl, s1, s2, dCons, dNil, dVar, dMov, dC, kLenN, peek, lenW, noDict, lenD, sCmp, sOrd, sEq, kEq, sIn, sIsN, nonW, sInt, sAdd, sMul, sRows, rowD, flat, dsOf, seqW, dRet, dRetN, dDrop, dBrk, dCnt, dAsg, gN, gTp, gsCons, gsNil, DL.gSub, setW, useW, useWs, useD, nosto, nostos, fz, fzs, dCall, dCall0, argsD, argD, dLst, dTup, dIte, dAnd, dOr, dNot, dNeg, dBm, isTy, mApp, sIx, kItem, rowOf, dSl, kSl, dNo, dSo, kInt, kStr, kRepr, kListOf, kIsi, tyN, dFor, dRow, dRng1, dRng2, dComp, wipeE, dYes, dJoin, dJs, dFmt, kFmt, pkS, kI2, kAbs, okq, eqv, okqs, eqvs, kCat, dsOf_map, nostos_d, fzs_d, dChn, dRaise0, dRaise, dTryAs, dCallH, kIsX, dXf, kXf, dChN, dChT, dLinks, dBits, dIxMv, subX_ce, isExn, suE, dropX, dropO, keepX, nox, noxs, List.map_cons, List.map_nil, List.any_cons, List.any_nil, List.getElem?_cons_zero, List.getElem?_cons_succ, List.set_cons_zero, List.set_cons_succ, List.length_cons, List.length_nil, Option.bind_some, Option.map_some, if_true, if_false, Bool.false_eq_true, decide_eq_true_eq, true_and, List.length_map, Bool.not_true, Bool.not_false, Bool.not_eq_true', decide_eq_false_iff_not, Bool.false_bne, eq_self, beq_self_eq_true, Bool.true_bne, ite_self, reduceCtorEq, useWs, S__law_due]
    walk_at "crunch"
    refine ⟨_, rfl, ?_⟩
    simp only [dSeq, dNext, dIf, dOrT, dAndT, dNotT, dBl, kBl, dTru, kTru, DL.truD, dOp, dCl, s1, s2, dCons, dNil, dVar, dMov, dC, kLenN, peek, lenW, noDict, lenD, sCmp, sOrd, sEq, kEq, sIn, sIsN, nonW, sInt, sAdd, sMul, sRows, rowD, flat, dsOf, seqW, dRet, dRetN, dDrop, dBrk, dCnt, dAsg, gN, gTp, gsCons, gsNil, DL.gSub, setW, useW, useWs, useD, nosto, nostos, fz, fzs, dCall, dCall0, argsD, argD, dLst, dTup, dIte, dAnd, dOr, dNot, dNeg, dBm, isTy, mApp, sIx, kItem, rowOf, dSl, kSl, dNo, dSo, kInt, kStr, kRepr, kListOf, kIsi, tyN, dFor, dRow, dRng1, dRng2, dComp, wipeE, dYes, dJoin, dJs, dFmt, kFmt, pkS, kI2, kAbs, okq, eqv, okqs, eqvs, kCat, dsOf_map, nostos_d, fzs_d, dChn, dRaise0, dRaise, dTryAs, dCallH, kIsX, dXf, kXf, dChN, dChT, dLinks, dBits, dIxMv, subX_ce, isExn, suE, dropX, dropO, keepX, nox, noxs, List.map_cons, List.map_nil, List.any_cons, List.any_nil, List.getElem?_cons_zero, List.getElem?_cons_succ, List.set_cons_zero, List.set_cons_succ, List.length_cons, List.length_nil, Option.bind_some, Option.map_some, if_true, if_false, Bool.false_eq_true, decide_eq_true_eq, true_and, List.length_map, Bool.not_true, Bool.not_false, Bool.not_eq_true', decide_eq_false_iff_not, Bool.false_bne, eq_self, beq_self_eq_true, Bool.true_bne, ite_self, reduceCtorEq, clear, clears, flatL, Bool.and_self, S__law_same]
    walk_at "crunch"
    refine ⟨_, rfl, by decide +kernel, by decide +kernel, ?_⟩
    try simp only [dSeq, dNext, dIf, dOrT, dAndT, dNotT, dBl, kBl, dTru, kTru, DL.truD, dOp, dCl, s1, s2, dCons, dNil, dVar, dMov, dC, kLenN, peek, lenW, noDict, lenD, sCmp, sOrd, sEq, kEq, sIn, sIsN, nonW, sInt, sAdd, sMul, sRows, rowD, flat, dsOf, seqW, dRet, dRetN, dDrop, dBrk, dCnt, dAsg, gN, gTp, gsCons, gsNil, DL.gSub, setW, useW, useWs, useD, nosto, nostos, fz, fzs, dCall, dCall0, argsD, argD, dLst, dTup, dIte, dAnd, dOr, dNot, dNeg, dBm, isTy, mApp, sIx, kItem, rowOf, dSl, kSl, dNo, dSo, kInt, kStr, kRepr, kListOf, kIsi, tyN, dFor, dRow, dRng1, dRng2, dComp, wipeE, dYes, dJoin, dJs, dFmt, kFmt, pkS, kI2, kAbs, okq, eqv, okqs, eqvs, kCat, dsOf_map, nostos_d, fzs_d, dChn, dRaise0, dRaise, dTryAs, dCallH, kIsX, dXf, kXf, dChN, dChT, dLinks, dBits, dIxMv, subX_ce, isExn, suE, dropX, dropO, keepX, nox, noxs, List.map_cons, List.map_nil, List.any_cons, List.any_nil, List.getElem?_cons_zero, List.getElem?_cons_succ, List.set_cons_zero, List.set_cons_succ, List.length_cons, List.length_nil, Option.bind_some, Option.map_some, if_true, if_false, Bool.false_eq_true, decide_eq_true_eq, true_and, List.length_map, Bool.not_true, Bool.not_false, Bool.not_eq_true', decide_eq_false_iff_not, Bool.false_bne, eq_self, beq_self_eq_true, Bool.true_bne, ite_self, reduceCtorEq, clear, clears, flatL, Bool.and_self]
    walk_at "crunch"
    exact tail _
theorem p_law : ∀ ns : List Int, ns.length ≤ 63 → t_law trueE kf0 ((startE N_law [.d (.klst (ns.map .int))]).set 1 (some .sto)) := by
  intro ns hn
  show t_law_0_0 trueE kf0 [some (.d (.klst (ns.map .int))), some .sto, none, none, none, none, none, none, none, none, none, none, none, none]
  generalize W.d (D.klst (ns.map D.int)) = sc
  simp only [t_law_0_0, dSeq, dNext, dIf, dOrT, dAndT, dNotT, dBl, kBl, dTru, kTru, DL.truD, dOp, dCl, s1, s2, dCons, dNil, dVar, dMov, dC, kLenN, peek, lenW, noDict, lenD, sCmp, sOrd, sEq, kEq, sIn, sIsN, nonW, sInt, sAdd, sMul, sRows, rowD, flat, dsOf, seqW, dRet, dRetN, dDrop, dBrk, dCnt, dAsg, gN, gTp, gsCons, gsNil, DL.gSub, setW, useW, useWs, useD, nosto, nostos, fz, fzs, dCall, dCall0, argsD, argD, dLst, dTup, dIte, dAnd, dOr, dNot, dNeg, dBm, isTy, mApp, sIx, kItem, rowOf, dSl, kSl, dNo, dSo, kInt, kStr, kRepr, kListOf, kIsi, tyN, dFor, dRow, dRng1, dRng2, dComp, wipeE, dYes, dJoin, dJs, dFmt, kFmt, pkS, kI2, kAbs, okq, eqv, okqs, eqvs, kCat, dsOf_map, nostos_d, fzs_d, dChn, dRaise0, dRaise, dTryAs, dCallH, kIsX, dXf, kXf, dChN, dChT, dLinks, dBits, dIxMv, subX_ce, isExn, suE, dropX, dropO, keepX, nox, noxs, List.map_cons, List.map_nil, List.any_cons, List.any_nil, List.getElem?_cons_zero, List.getElem?_cons_succ, List.set_cons_zero, List.set_cons_succ, List.length_cons, List.length_nil, Option.bind_some, Option.map_some, if_true, if_false, Bool.false_eq_true, decide_eq_true_eq, true_and, List.length_map, Bool.not_true, Bool.not_false, Bool.not_eq_true', decide_eq_false_iff_not, Bool.false_bne, eq_self, beq_self_eq_true, Bool.true_bne, ite_self, reduceCtorEq]
  refine ⟨⟨by decide, by decide⟩, ?_⟩
  refine compL_fun (fun w => w) (fun w hw acc K hK ha => ?_) (by rw [rangeW_len]; exact szl (by decide)) ?_
  · obtain ⟨j, hj, rfl⟩ := range_int hw
    simp only [compStep, dSeq, dNext, dIf, dOrT, dAndT, dNotT, dBl, kBl, dTru, kTru, DL.truD, dOp, dCl, s1, s2, dCons, dNil, dVar, dMov, dC, kLenN, peek, lenW, noDict, lenD, sCmp, sOrd, sEq, kEq, sIn, sIsN, nonW, sInt, sAdd, sMul, sRows, rowD, flat, dsOf, seqW, dRet, dRetN, dDrop, dBrk, dCnt, dAsg, gN, gTp, gsCons, gsNil, DL.gSub, setW, useW, useWs, useD, nosto, nostos, fz, fzs, dCall, dCall0, argsD, argD, dLst, dTup, dIte, dAnd, dOr, dNot, dNeg, dBm, isTy, mApp, sIx, kItem, rowOf, dSl, kSl, dNo, dSo, kInt, kStr, kRepr, kListOf, kIsi, tyN, dFor, dRow, dRng1, dRng2, dComp, wipeE, dYes, dJoin, dJs, dFmt, kFmt, pkS, kI2, kAbs, okq, eqv, okqs, eqvs, kCat, dsOf_map, nostos_d, fzs_d, dChn, dRaise0, dRaise, dTryAs, dCallH, kIsX, dXf, kXf, dChN, dChT, dLinks, dBits, dIxMv, subX_ce, isExn, suE, dropX, dropO, keepX, nox, noxs, List.map_cons, List.map_nil, List.any_cons, List.any_nil, List.getElem?_cons_zero, List.getElem?_cons_succ, List.set_cons_zero, List.set_cons_succ, List.length_cons, List.length_nil, Option.bind_some, Option.map_some, if_true, if_false, Bool.false_eq_true, decide_eq_true_eq, true_and, List.length_map, Bool.not_true, Bool.not_false, Bool.not_eq_true', decide_eq_false_iff_not, Bool.false_bne, eq_self, beq_self_eq_true, Bool.true_bne, ite_self, reduceCtorEq]
    exact ⟨by decide, ha, hK⟩
  rw [List.map_id']
  simp only [dSeq, dNext, dIf, dOrT, dAndT, dNotT, dBl, kBl, dTru, kTru, DL.truD, dOp, dCl, s1, s2, dCons, dNil, dVar, dMov, dC, kLenN, peek, lenW, noDict, lenD, sCmp, sOrd, sEq, kEq, sIn, sIsN, nonW, sInt, sAdd, sMul, sRows, rowD, flat, dsOf, seqW, dRet, dRetN, dDrop, dBrk, dCnt, dAsg, gN, gTp, gsCons, gsNil, DL.gSub, setW, useW, useWs, useD, nosto, nostos, fz, fzs, dCall, dCall0, argsD, argD, dLst, dTup, dIte, dAnd, dOr, dNot, dNeg, dBm, isTy, mApp, sIx, kItem, rowOf, dSl, kSl, dNo, dSo, kInt, kStr, kRepr, kListOf, kIsi, tyN, dFor, dRow, dRng1, dRng2, dComp, wipeE, dYes, dJoin, dJs, dFmt, kFmt, pkS, kI2, kAbs, okq, eqv, okqs, eqvs, kCat, dsOf_map, nostos_d, fzs_d, dChn, dRaise0, dRaise, dTryAs, dCallH, kIsX, dXf, kXf, dChN, dChT, dLinks, dBits, dIxMv, subX_ce, isExn, suE, dropX, dropO, keepX, nox, noxs, List.map_cons, List.map_nil, List.any_cons, List.any_nil, List.getElem?_cons_zero, List.getElem?_cons_succ, List.set_cons_zero, List.set_cons_succ, List.length_cons, List.length_nil, Option.bind_some, Option.map_some, if_true, if_false, Bool.false_eq_true, decide_eq_true_eq, true_and, List.length_map, Bool.not_true, Bool.not_false, Bool.not_eq_true', decide_eq_false_iff_not, Bool.false_bne, eq_self, beq_self_eq_true, Bool.true_bne, ite_self, reduceCtorEq, S__law_wild]
  intro i1 i2
  have er : [] ++ rangeW 0 (Int.toNat 18) = ((List.range 18).map fun i : Nat => D.int (0 + (i : Nat))).map W.d := by rw [List.map_map]; rfl
  rw [er, dsOf_map]
  refine ⟨szl (by decide), szl (by simp), ?_⟩
  refine forL_ind (fun r env => (∀ w ∈ r, ∃ i, w = .d (.int i)) ∧ ∃ o2 o3 o13, env = [some sc, some .sto, o2, o3, none, none, none, none, none, none, none, none, none, o13]) ?_ ⟨fun w hw => ?_, none, none, none, rfl⟩ ?_
  · rintro w r env K ⟨hw, o2, o3, o13, rfl⟩ hK
    obtain ⟨i, rfl⟩ := hw _ List.mem_cons_self
    refine ⟨by simp, ?_⟩
    exact one_count fun o3 o13 => hK _ ⟨fun w m => hw w (List.mem_cons_of_mem _ m), _, o3, o13, rfl⟩
  · obtain ⟨x, hx, rfl⟩ := List.mem_map.mp hw
    rcases List.mem_append.mp hx with hx | hx
    · obtain ⟨a, _, rfl⟩ := List.mem_map.mp hx
      exact ⟨_, rfl⟩
    · simp only [List.mem_cons, List.not_mem_nil, or_false] at hx
      rcases hx with rfl | rfl | rfl <;> exact ⟨_, rfl⟩
  rintro e ⟨_, o2, o3, o13, rfl⟩
  simp only [t_law_0_1, dSeq, dNext, dIf, dOrT, dAndT, dNotT, dBl, kBl, dTru, kTru, DL.truD, dOp, dCl, s1, s2, dCons, dNil, dVar, dMov, dC, kLenN, peek, lenW, noDict, lenD, sCmp, sOrd, sEq, kEq, sIn, sIsN, nonW, sInt, sAdd, sMul, sRows, rowD, flat, dsOf, seqW, dRet, dRetN, dDrop, dBrk, dCnt, dAsg, gN, gTp, gsCons, gsNil, DL.gSub, setW, useW, useWs, useD, nosto, nostos, fz, fzs, dCall, dCall0, argsD, argD, dLst, dTup, dIte, dAnd, dOr, dNot, dNeg, dBm, isTy, mApp, sIx, kItem, rowOf, dSl, kSl, dNo, dSo, kInt, kStr, kRepr, kListOf, kIsi, tyN, dFor, dRow, dRng1, dRng2, dComp, wipeE, dYes, dJoin, dJs, dFmt, kFmt, pkS, kI2, kAbs, okq, eqv, okqs, eqvs, kCat, dsOf_map, nostos_d, fzs_d, dChn, dRaise0, dRaise, dTryAs, dCallH, kIsX, dXf, kXf, dChN, dChT, dLinks, dBits, dIxMv, subX_ce, isExn, suE, dropX, dropO, keepX, nox, noxs, List.map_cons, List.map_nil, List.any_cons, List.any_nil, List.getElem?_cons_zero, List.getElem?_cons_succ, List.set_cons_zero, List.set_cons_succ, List.length_cons, List.length_nil, Option.bind_some, Option.map_some, if_true, if_false, Bool.false_eq_true, decide_eq_true_eq, true_and, List.length_map, Bool.not_true, Bool.not_false, Bool.not_eq_true', decide_eq_false_iff_not, Bool.false_bne, eq_self, beq_self_eq_true, Bool.true_bne, ite_self, reduceCtorEq, S__law_between]
  refine ⟨1, 16, rfl, by decide, by decide, fun c c1 c2 => ?_⟩
  try simp only [dSeq, dNext, dIf, dOrT, dAndT, dNotT, dBl, kBl, dTru, kTru, DL.truD, dOp, dCl, s1, s2, dCons, dNil, dVar, dMov, dC, kLenN, peek, lenW, noDict, lenD, sCmp, sOrd, sEq, kEq, sIn, sIsN, nonW, sInt, sAdd, sMul, sRows, rowD, flat, dsOf, seqW, dRet, dRetN, dDrop, dBrk, dCnt, dAsg, gN, gTp, gsCons, gsNil, DL.gSub, setW, useW, useWs, useD, nosto, nostos, fz, fzs, dCall, dCall0, argsD, argD, dLst, dTup, dIte, dAnd, dOr, dNot, dNeg, dBm, isTy, mApp, sIx, kItem, rowOf, dSl, kSl, dNo, dSo, kInt, kStr, kRepr, kListOf, kIsi, tyN, dFor, dRow, dRng1, dRng2, dComp, wipeE, dYes, dJoin, dJs, dFmt, kFmt, pkS, kI2, kAbs, okq, eqv, okqs, eqvs, kCat, dsOf_map, nostos_d, fzs_d, dChn, dRaise0, dRaise, dTryAs, dCallH, kIsX, dXf, kXf, dChN, dChT, dLinks, dBits, dIxMv, subX_ce, isExn, suE, dropX, dropO, keepX, nox, noxs, List.map_cons, List.map_nil, List.any_cons, List.any_nil, List.getElem?_cons_zero, List.getElem?_cons_succ, List.set_cons_zero, List.set_cons_succ, List.length_cons, List.length_nil, Option.bind_some, Option.map_some, if_true, if_false, Bool.false_eq_true, decide_eq_true_eq, true_and, List.length_map, Bool.not_true, Bool.not_false, Bool.not_eq_true', decide_eq_false_iff_not, Bool.false_bne, eq_self, beq_self_eq_true, Bool.true_bne, ite_self, reduceCtorEq, clear, clears, flatL, Bool.and_self]
  walk_at "crunch"
  simp only [t_law_0_2, dSeq, dNext, dIf, dOrT, dAndT, dNotT, dBl, kBl, dTru, kTru, DL.truD, dOp, dCl, s1, s2, dCons, dNil, dVar, dMov, dC, kLenN, peek, lenW, noDict, lenD, sCmp, sOrd, sEq, kEq, sIn, sIsN, nonW, sInt, sAdd, sMul, sRows, rowD, flat, dsOf, seqW, dRet, dRetN, dDrop, dBrk, dCnt, dAsg, gN, gTp, gsCons, gsNil, DL.gSub, setW, useW, useWs, useD, nosto, nostos, fz, fzs, dCall, dCall0, argsD, argD, dLst, dTup, dIte, dAnd, dOr, dNot, dNeg, dBm, isTy, mApp, sIx, kItem, rowOf, dSl, kSl, dNo, dSo, kInt, kStr, kRepr, kListOf, kIsi, tyN, dFor, dRow, dRng1, dRng2, dComp, wipeE, dYes, dJoin, dJs, dFmt, kFmt, pkS, kI2, kAbs, okq, eqv, okqs, eqvs, kCat, dsOf_map, nostos_d, fzs_d, dChn, dRaise0, dRaise, dTryAs, dCallH, kIsX, dXf, kXf, dChN, dChT, dLinks, dBits, dIxMv, subX_ce, isExn, suE, dropX, dropO, keepX, nox, noxs, List.map_cons, List.map_nil, List.any_cons, List.any_nil, List.getElem?_cons_zero, List.getElem?_cons_succ, List.set_cons_zero, List.set_cons_succ, List.length_cons, List.length_nil, Option.bind_some, Option.map_some, if_true, if_false, Bool.false_eq_true, decide_eq_true_eq, true_and, List.length_map, Bool.not_true, Bool.not_false, Bool.not_eq_true', decide_eq_false_iff_not, Bool.false_bne, eq_self, beq_self_eq_true, Bool.true_bne, ite_self, reduceCtorEq]
  refine ⟨⟨by omega, by omega⟩, ?_⟩
  refine forL_ind (fun r env => (∀ w ∈ r, ∃ i : Int, 0 ≤ i ∧ i < c ∧ w = .d (.int i)) ∧ ∃ o4 o5, env = [some sc, some .sto, some (.d (.int c)), o3, o4, o5, none, none, none, none, none, none, none, o13]) ?_ ⟨fun w hw => ?_, none, none, rfl⟩ ?_
  · rintro w r env K ⟨hw, o4, o5, rfl⟩ hK
    obtain ⟨lo, l0, l1, rfl⟩ := hw _ List.mem_cons_self
    refine ⟨by simp, ?_⟩
    simp only [t_law_7_0, dSeq, dNext, dIf, dOrT, dAndT, dNotT, dBl, kBl, dTru, kTru, DL.truD, dOp, dCl, s1, s2, dCons, dNil, dVar, dMov, dC, kLenN, peek, lenW, noDict, lenD, sCmp, sOrd, sEq, kEq, sIn, sIsN, nonW, sInt, sAdd, sMul, sRows, rowD, flat, dsOf, seqW, dRet, dRetN, dDrop, dBrk, dCnt, dAsg, gN, gTp, gsCons, gsNil, DL.gSub, setW, useW, useWs, useD, nosto, nostos, fz, fzs, dCall, dCall0, argsD, argD, dLst, dTup, dIte, dAnd, dOr, dNot, dNeg, dBm, isTy, mApp, sIx, kItem, rowOf, dSl, kSl, dNo, dSo, kInt, kStr, kRepr, kListOf, kIsi, tyN, dFor, dRow, dRng1, dRng2, dComp, wipeE, dYes, dJoin, dJs, dFmt, kFmt, pkS, kI2, kAbs, okq, eqv, okqs, eqvs, kCat, dsOf_map, nostos_d, fzs_d, dChn, dRaise0, dRaise, dTryAs, dCallH, kIsX, dXf, kXf, dChN, dChT, dLinks, dBits, dIxMv, subX_ce, isExn, suE, dropX, dropO, keepX, nox, noxs, List.map_cons, List.map_nil, List.any_cons, List.any_nil, List.getElem?_cons_zero, List.getElem?_cons_succ, List.set_cons_zero, List.set_cons_succ, List.length_cons, List.length_nil, Option.bind_some, Option.map_some, if_true, if_false, Bool.false_eq_true, decide_eq_true_eq, true_and, List.length_map, Bool.not_true, Bool.not_false, Bool.not_eq_true', decide_eq_false_iff_not, Bool.false_bne, eq_self, beq_self_eq_true, Bool.true_bne, ite_self, reduceCtorEq]
    refine ⟨⟨by omega, by omega⟩, ⟨by omega, by omega⟩, ?_⟩
    refine forL_ind (fun r env => (∀ w ∈ r, ∃ i : Int, lo < i ∧ i ≤ c ∧ w = .d (.int i)) ∧ ∃ o5, env = [some sc, some .sto, some (.d (.int c)), o3, some (.d (.int lo)), o5, none, none, none, none, none, none, none, o13]) ?_ ⟨fun w hw => ?_, o5, rfl⟩ ?_
    · rintro w r env K ⟨hw, o5, rfl⟩ hK
      obtain ⟨hi, h0, h1, rfl⟩ := hw _ List.mem_cons_self
      refine ⟨by simp, ?_⟩
      simp only [t_law_8_0, dSeq, dNext, dIf, dOrT, dAndT, dNotT, dBl, kBl, dTru, kTru, DL.truD, dOp, dCl, s1, s2, dCons, dNil, dVar, dMov, dC, kLenN, peek, lenW, noDict, lenD, sCmp, sOrd, sEq, kEq, sIn, sIsN, nonW, sInt, sAdd, sMul, sRows, rowD, flat, dsOf, seqW, dRet, dRetN, dDrop, dBrk, dCnt, dAsg, gN, gTp, gsCons, gsNil, DL.gSub, setW, useW, useWs, useD, nosto, nostos, fz, fzs, dCall, dCall0, argsD, argD, dLst, dTup, dIte, dAnd, dOr, dNot, dNeg, dBm, isTy, mApp, sIx, kItem, rowOf, dSl, kSl, dNo, dSo, kInt, kStr, kRepr, kListOf, kIsi, tyN, dFor, dRow, dRng1, dRng2, dComp, wipeE, dYes, dJoin, dJs, dFmt, kFmt, pkS, kI2, kAbs, okq, eqv, okqs, eqvs, kCat, dsOf_map, nostos_d, fzs_d, dChn, dRaise0, dRaise, dTryAs, dCallH, kIsX, dXf, kXf, dChN, dChT, dLinks, dBits, dIxMv, subX_ce, isExn, suE, dropX, dropO, keepX, nox, noxs, List.map_cons, List.map_nil, List.any_cons, List.any_nil, List.getElem?_cons_zero, List.getElem?_cons_succ, List.set_cons_zero, List.set_cons_succ, List.length_cons, List.length_nil, Option.bind_some, Option.map_some, if_true, if_false, Bool.false_eq_true, decide_eq_true_eq, true_and, List.length_map, Bool.not_true, Bool.not_false, Bool.not_eq_true', decide_eq_false_iff_not, Bool.false_bne, eq_self, beq_self_eq_true, Bool.true_bne, ite_self, reduceCtorEq, S__law_answer]
      refine ⟨c, lo, hi, rfl, ?_⟩
      rw [if_pos ⟨l0, h0, h1, by omega⟩]
      simp only [dSeq, dNext, dIf, dOrT, dAndT, dNotT, dBl, kBl, dTru, kTru, DL.truD, dOp, dCl, s1, s2, dCons, dNil, dVar, dMov, dC, kLenN, peek, lenW, noDict, lenD, sCmp, sOrd, sEq, kEq, sIn, sIsN, nonW, sInt, sAdd, sMul, sRows, rowD, flat, dsOf, seqW, dRet, dRetN, dDrop, dBrk, dCnt, dAsg, gN, gTp, gsCons, gsNil, DL.gSub, setW, useW, useWs, useD, nosto, nostos, fz, fzs, dCall, dCall0, argsD, argD, dLst, dTup, dIte, dAnd, dOr, dNot, dNeg, dBm, isTy, mApp, sIx, kItem, rowOf, dSl, kSl, dNo, dSo, kInt, kStr, kRepr, kListOf, kIsi, tyN, dFor, dRow, dRng1, dRng2, dComp, wipeE, dYes, dJoin, dJs, dFmt, kFmt, pkS, kI2, kAbs, okq, eqv, okqs, eqvs, kCat, dsOf_map, nostos_d, fzs_d, dChn, dRaise0, dRaise, dTryAs, dCallH, kIsX, dXf, kXf, dChN, dChT, dLinks, dBits, dIxMv, subX_ce, isExn, suE, dropX, dropO, keepX, nox, noxs, List.map_cons, List.map_nil, List.any_cons, List.any_nil, List.getElem?_cons_zero, List.getElem?_cons_succ, List.set_cons_zero, List.set_cons_succ, List.length_cons, List.length_nil, Option.bind_some, Option.map_some, if_true, if_false, Bool.false_eq_true, decide_eq_true_eq, true_and, List.length_map, Bool.not_true, Bool.not_false, Bool.not_eq_true', decide_eq_false_iff_not, Bool.false_bne, eq_self, beq_self_eq_true, Bool.true_bne, ite_self, reduceCtorEq, clear, clears, flatL, Bool.and_self, spans_cl, spans_no, spans_fz, S__law_right]
      walk_at "crunch"
      refine ⟨_, lo, hi, rfl, chk_ok l0 h0 (by omega), ?_⟩
      try simp only [dSeq, dNext, dIf, dOrT, dAndT, dNotT, dBl, kBl, dTru, kTru, DL.truD, dOp, dCl, s1, s2, dCons, dNil, dVar, dMov, dC, kLenN, peek, lenW, noDict, lenD, sCmp, sOrd, sEq, kEq, sIn, sIsN, nonW, sInt, sAdd, sMul, sRows, rowD, flat, dsOf, seqW, dRet, dRetN, dDrop, dBrk, dCnt, dAsg, gN, gTp, gsCons, gsNil, DL.gSub, setW, useW, useWs, useD, nosto, nostos, fz, fzs, dCall, dCall0, argsD, argD, dLst, dTup, dIte, dAnd, dOr, dNot, dNeg, dBm, isTy, mApp, sIx, kItem, rowOf, dSl, kSl, dNo, dSo, kInt, kStr, kRepr, kListOf, kIsi, tyN, dFor, dRow, dRng1, dRng2, dComp, wipeE, dYes, dJoin, dJs, dFmt, kFmt, pkS, kI2, kAbs, okq, eqv, okqs, eqvs, kCat, dsOf_map, nostos_d, fzs_d, dChn, dRaise0, dRaise, dTryAs, dCallH, kIsX, dXf, kXf, dChN, dChT, dLinks, dBits, dIxMv, subX_ce, isExn, suE, dropX, dropO, keepX, nox, noxs, List.map_cons, List.map_nil, List.any_cons, List.any_nil, List.getElem?_cons_zero, List.getElem?_cons_succ, List.set_cons_zero, List.set_cons_succ, List.length_cons, List.length_nil, Option.bind_some, Option.map_some, if_true, if_false, Bool.false_eq_true, decide_eq_true_eq, true_and, List.length_map, Bool.not_true, Bool.not_false, Bool.not_eq_true', decide_eq_false_iff_not, Bool.false_bne, eq_self, beq_self_eq_true, Bool.true_bne, ite_self, reduceCtorEq, clear, clears, flatL, Bool.and_self]
      walk_at "crunch"
      exact hK _ ⟨fun w m => hw w (List.mem_cons_of_mem _ m), _, rfl⟩
    · obtain ⟨j, hj, rfl⟩ := range_int hw
      exact ⟨_, by omega, by omega, rfl⟩
    · rintro e ⟨_, o5, rfl⟩
      exact hK _ ⟨fun w m => hw w (List.mem_cons_of_mem _ m), _, _, rfl⟩
  · obtain ⟨j, hj, rfl⟩ := range_int hw
    exact ⟨_, by omega, by omega, rfl⟩
  rintro e ⟨_, o4, o5, rfl⟩
  simp only [t_law_0_3, dSeq, dNext, dIf, dOrT, dAndT, dNotT, dBl, kBl, dTru, kTru, DL.truD, dOp, dCl, s1, s2, dCons, dNil, dVar, dMov, dC, kLenN, peek, lenW, noDict, lenD, sCmp, sOrd, sEq, kEq, sIn, sIsN, nonW, sInt, sAdd, sMul, sRows, rowD, flat, dsOf, seqW, dRet, dRetN, dDrop, dBrk, dCnt, dAsg, gN, gTp, gsCons, gsNil, DL.gSub, setW, useW, useWs, useD, nosto, nostos, fz, fzs, dCall, dCall0, argsD, argD, dLst, dTup, dIte, dAnd, dOr, dNot, dNeg, dBm, isTy, mApp, sIx, kItem, rowOf, dSl, kSl, dNo, dSo, kInt, kStr, kRepr, kListOf, kIsi, tyN, dFor, dRow, dRng1, dRng2, dComp, wipeE, dYes, dJoin, dJs, dFmt, kFmt, pkS, kI2, kAbs, okq, eqv, okqs, eqvs, kCat, dsOf_map, nostos_d, fzs_d, dChn, dRaise0, dRaise, dTryAs, dCallH, kIsX, dXf, kXf, dChN, dChT, dLinks, dBits, dIxMv, subX_ce, isExn, suE, dropX, dropO, keepX, nox, noxs, List.map_cons, List.map_nil, List.any_cons, List.any_nil, List.getElem?_cons_zero, List.getElem?_cons_succ, List.set_cons_zero, List.set_cons_succ, List.length_cons, List.length_nil, Option.bind_some, Option.map_some, if_true, if_false, Bool.false_eq_true, decide_eq_true_eq, true_and, List.length_map, Bool.not_true, Bool.not_false, Bool.not_eq_true', decide_eq_false_iff_not, Bool.false_bne, eq_self, beq_self_eq_true, Bool.true_bne, ite_self, reduceCtorEq, S__law_take, S_take]
  refine ⟨_, rfl, by omega, by omega, fun lo l0 l1 => ?_⟩
  try simp only [dSeq, dNext, dIf, dOrT, dAndT, dNotT, dBl, kBl, dTru, kTru, DL.truD, dOp, dCl, s1, s2, dCons, dNil, dVar, dMov, dC, kLenN, peek, lenW, noDict, lenD, sCmp, sOrd, sEq, kEq, sIn, sIsN, nonW, sInt, sAdd, sMul, sRows, rowD, flat, dsOf, seqW, dRet, dRetN, dDrop, dBrk, dCnt, dAsg, gN, gTp, gsCons, gsNil, DL.gSub, setW, useW, useWs, useD, nosto, nostos, fz, fzs, dCall, dCall0, argsD, argD, dLst, dTup, dIte, dAnd, dOr, dNot, dNeg, dBm, isTy, mApp, sIx, kItem, rowOf, dSl, kSl, dNo, dSo, kInt, kStr, kRepr, kListOf, kIsi, tyN, dFor, dRow, dRng1, dRng2, dComp, wipeE, dYes, dJoin, dJs, dFmt, kFmt, pkS, kI2, kAbs, okq, eqv, okqs, eqvs, kCat, dsOf_map, nostos_d, fzs_d, dChn, dRaise0, dRaise, dTryAs, dCallH, kIsX, dXf, kXf, dChN, dChT, dLinks, dBits, dIxMv, subX_ce, isExn, suE, dropX, dropO, keepX, nox, noxs, List.map_cons, List.map_nil, List.any_cons, List.any_nil, List.getElem?_cons_zero, List.getElem?_cons_succ, List.set_cons_zero, List.set_cons_succ, List.length_cons, List.length_nil, Option.bind_some, Option.map_some, if_true, if_false, Bool.false_eq_true, decide_eq_true_eq, true_and, List.length_map, Bool.not_true, Bool.not_false, Bool.not_eq_true', decide_eq_false_iff_not, Bool.false_bne, eq_self, beq_self_eq_true, Bool.true_bne, ite_self, reduceCtorEq, clear, clears, flatL, Bool.and_self]
  walk_at "crunch"
  simp only [t_law_0_4, dSeq, dNext, dIf, dOrT, dAndT, dNotT, dBl, kBl, dTru, kTru, DL.truD, dOp, dCl, s1, s2, dCons, dNil, dVar, dMov, dC, kLenN, peek, lenW, noDict, lenD, sCmp, sOrd, sEq, kEq, sIn, sIsN, nonW, sInt, sAdd, sMul, sRows, rowD, flat, dsOf, seqW, dRet, dRetN, dDrop, dBrk, dCnt, dAsg, gN, gTp, gsCons, gsNil, DL.gSub, setW, useW, useWs, useD, nosto, nostos, fz, fzs, dCall, dCall0, argsD, argD, dLst, dTup, dIte, dAnd, dOr, dNot, dNeg, dBm, isTy, mApp, sIx, kItem, rowOf, dSl, kSl, dNo, dSo, kInt, kStr, kRepr, kListOf, kIsi, tyN, dFor, dRow, dRng1, dRng2, dComp, wipeE, dYes, dJoin, dJs, dFmt, kFmt, pkS, kI2, kAbs, okq, eqv, okqs, eqvs, kCat, dsOf_map, nostos_d, fzs_d, dChn, dRaise0, dRaise, dTryAs, dCallH, kIsX, dXf, kXf, dChN, dChT, dLinks, dBits, dIxMv, subX_ce, isExn, suE, dropX, dropO, keepX, nox, noxs, List.map_cons, List.map_nil, List.any_cons, List.any_nil, List.getElem?_cons_zero, List.getElem?_cons_succ, List.set_cons_zero, List.set_cons_succ, List.length_cons, List.length_nil, Option.bind_some, Option.map_some, if_true, if_false, Bool.false_eq_true, decide_eq_true_eq, true_and, List.length_map, Bool.not_true, Bool.not_false, Bool.not_eq_true', decide_eq_false_iff_not, Bool.false_bne, eq_self, beq_self_eq_true, Bool.true_bne, ite_self, reduceCtorEq, S__law_take, S_take]
  refine ⟨_, rfl, by omega, by omega, fun dh h0 h1 => ?_⟩
  try simp only [dSeq, dNext, dIf, dOrT, dAndT, dNotT, dBl, kBl, dTru, kTru, DL.truD, dOp, dCl, s1, s2, dCons, dNil, dVar, dMov, dC, kLenN, peek, lenW, noDict, lenD, sCmp, sOrd, sEq, kEq, sIn, sIsN, nonW, sInt, sAdd, sMul, sRows, rowD, flat, dsOf, seqW, dRet, dRetN, dDrop, dBrk, dCnt, dAsg, gN, gTp, gsCons, gsNil, DL.gSub, setW, useW, useWs, useD, nosto, nostos, fz, fzs, dCall, dCall0, argsD, argD, dLst, dTup, dIte, dAnd, dOr, dNot, dNeg, dBm, isTy, mApp, sIx, kItem, rowOf, dSl, kSl, dNo, dSo, kInt, kStr, kRepr, kListOf, kIsi, tyN, dFor, dRow, dRng1, dRng2, dComp, wipeE, dYes, dJoin, dJs, dFmt, kFmt, pkS, kI2, kAbs, okq, eqv, okqs, eqvs, kCat, dsOf_map, nostos_d, fzs_d, dChn, dRaise0, dRaise, dTryAs, dCallH, kIsX, dXf, kXf, dChN, dChT, dLinks, dBits, dIxMv, subX_ce, isExn, suE, dropX, dropO, keepX, nox, noxs, List.map_cons, List.map_nil, List.any_cons, List.any_nil, List.getElem?_cons_zero, List.getElem?_cons_succ, List.set_cons_zero, List.set_cons_succ, List.length_cons, List.length_nil, Option.bind_some, Option.map_some, if_true, if_false, Bool.false_eq_true, decide_eq_true_eq, true_and, List.length_map, Bool.not_true, Bool.not_false, Bool.not_eq_true', decide_eq_false_iff_not, Bool.false_bne, eq_self, beq_self_eq_true, Bool.true_bne, ite_self, reduceCtorEq, clear, clears, flatL, Bool.and_self]
  walk_at "crunch"
  simp only [t_law_0_5, dSeq, dNext, dIf, dOrT, dAndT, dNotT, dBl, kBl, dTru, kTru, DL.truD, dOp, dCl, s1, s2, dCons, dNil, dVar, dMov, dC, kLenN, peek, lenW, noDict, lenD, sCmp, sOrd, sEq, kEq, sIn, sIsN, nonW, sInt, sAdd, sMul, sRows, rowD, flat, dsOf, seqW, dRet, dRetN, dDrop, dBrk, dCnt, dAsg, gN, gTp, gsCons, gsNil, DL.gSub, setW, useW, useWs, useD, nosto, nostos, fz, fzs, dCall, dCall0, argsD, argD, dLst, dTup, dIte, dAnd, dOr, dNot, dNeg, dBm, isTy, mApp, sIx, kItem, rowOf, dSl, kSl, dNo, dSo, kInt, kStr, kRepr, kListOf, kIsi, tyN, dFor, dRow, dRng1, dRng2, dComp, wipeE, dYes, dJoin, dJs, dFmt, kFmt, pkS, kI2, kAbs, okq, eqv, okqs, eqvs, kCat, dsOf_map, nostos_d, fzs_d, dChn, dRaise0, dRaise, dTryAs, dCallH, kIsX, dXf, kXf, dChN, dChT, dLinks, dBits, dIxMv, subX_ce, isExn, suE, dropX, dropO, keepX, nox, noxs, List.map_cons, List.map_nil, List.any_cons, List.any_nil, List.getElem?_cons_zero, List.getElem?_cons_succ, List.set_cons_zero, List.set_cons_succ, List.length_cons, List.length_nil, Option.bind_some, Option.map_some, if_true, if_false, Bool.false_eq_true, decide_eq_true_eq, true_and, List.length_map, Bool.not_true, Bool.not_false, Bool.not_eq_true', decide_eq_false_iff_not, Bool.false_bne, eq_self, beq_self_eq_true, Bool.true_bne, ite_self, reduceCtorEq]
  refine ⟨⟨by decide, by decide⟩, ?_⟩
  have v : 0 ≤ lo ∧ lo < lo + 1 + dh ∧ lo + 1 + dh ≤ c ∧ c ≤ 16 := by omega
  refine forL_ind (fun r env => (∀ w ∈ r, ∃ i : Int, w = .d (.int i)) ∧ ∃ o6 o7 o8 o9 o10 o11, env = [some sc, some .sto, some (.d (.int c)), o3, some (.d (.int lo)), some (.d (.int (lo + 1 + dh))), o6, o7, o8, o9, o10, o11, none, o13]) ?_ ⟨fun w hw => ?_, none, none, none, none, none, none, rfl⟩ ?_
  · rintro w r env K ⟨hw, o6, o7, o8, o9, o10, o11, rfl⟩ hK
    obtain ⟨i, rfl⟩ := hw _ List.mem_cons_self
    refine ⟨by simp, ?_⟩
    exact last_turn (i := i) v fun o7 o8 o9 o10 o11 => hK _ ⟨fun w m => hw w (List.mem_cons_of_mem _ m), _, _, _, _, _, _, rfl⟩
  · obtain ⟨j, hj, rfl⟩ := range_int hw
    exact ⟨_, rfl⟩
  rintro e ⟨_, o6, o7, o8, o9, o10, o11, rfl⟩
  exact law_end v

end Lk25

namespace Lk25
open PySem PySem.Spec
open PyProof.Rows L2 DL
theorem cls_here {X : Cx} {mg : Str → Option Value} {x : String} (e4 : X.mg = mg) (h : ∃ C, mg (Str.ofString x) = some (.ref C)) : ∃ C, X.mg (Str.ofString x) = some (.ref C) := by rw [e4]; exact h
section
variable {P : Program} {w : World} {K : PySem.W.Frag} {mg : Str → Option Value} {base : Heap} {f : Addr} {fd : FuncData}
abbrev FnP (K : PySem.W.Frag) (x : Str) (st : Stmt) (f : Addr) (fd : FuncData) : Prop := FunD K x x (defArgs st) (defBody st) (defScope st) [] [] f fd
theorem ok_levels (F : FnP K "levels" st_levels f fd) (x_BadNumber : Er0 K mg "BadNumber") (g_MOST_LINES : ∃ t, mg "MOST_LINES" = some (.int 16 t)) : FnOk P w K mg base (L2N.CX P w) 1 f fd ps_levels (toSp K mg ps_levels.length S_levels) :=
  fnok F sc_levels (fun X e1 e2 e3 e4 e5 h ho => w_levels h ho (x_BadNumber.here e3 e4) (int_here e4 g_MOST_LINES)) p_levels
theorem ok_aligned_spans (F : FnP K "aligned_spans" st_aligned_spans f fd) (x_BadNumber : Er0 K mg "BadNumber") (g_MOST_LINES : ∃ t, mg "MOST_LINES" = some (.int 16 t)) : FnOk P w K mg base (L2N.CX P w) 1 f fd ps_aligned_spans (toSp K mg ps_aligned_spans.length S_aligned_spans) :=
  fnok F sc_aligned_spans (fun X e1 e2 e3 e4 e5 h ho => w_aligned_spans h ho (x_BadNumber.here e3 e4) (int_here e4 g_MOST_LINES)) p_aligned_spans
theorem ok__law_store (F : FnP K "_law_store" st__law_store f fd) (m_len : mg "len" = none) (m_abs : mg "abs" = none) (m_int : mg "int" = none) : FnOk P w K mg base (L2N.CX P w) 1 f fd ps__law_store (toSp K mg ps__law_store.length S__law_store) :=
  fnok F sc__law_store (fun X e1 e2 e3 e4 e5 h ho => w__law_store h ho (none_here e4 m_len) (none_here e4 m_abs) (none_here e4 m_int)) p__law_store
theorem ok__law_take (F : FnP K "_law_take" st__law_take f fd) (m_int : mg "int" = none) (m_max : mg "max" = none) (m_len : mg "len" = none) : FnOk P w K mg base (L2N.CX P w) 1 f fd ps__law_take (toSp K mg 2 S__law_take) :=
  fnok_take F sc__law_take (fun X e1 e2 e3 e4 e5 h ho => w__law_take h ho (none_here e4 m_int) (none_here e4 m_max) (none_here e4 m_len)) p__law_take
theorem ok__law_whole (F : FnP K "_law_whole" st__law_whole f fd) (m_bool : mg "bool" = none) (m_isinstance : mg "isinstance" = none) (m_int : mg "int" = none) : FnOk P w K mg base (L2N.CX P w) 1 f fd ps__law_whole (toSp K mg ps__law_whole.length S__law_whole) :=
  fnok F sc__law_whole (fun X e1 e2 e3 e4 e5 h ho => w__law_whole h ho (none_here e4 m_bool) (none_here e4 m_isinstance) (none_here e4 m_int)) p__law_whole
theorem ok__law_parts (F : FnP K "_law_parts" st__law_parts f fd) (m_list : mg "list" = none) (m_dict : mg "dict" = none) (m_isinstance : mg "isinstance" = none) : FnOk P w K mg base (L2N.CX P w) 1 f fd ps__law_parts (toSp K mg ps__law_parts.length S__law_parts) :=
  fnok F sc__law_parts (fun X e1 e2 e3 e4 e5 h ho => w__law_parts h ho (none_here e4 m_list) (none_here e4 m_dict) (none_here e4 m_isinstance)) p__law_parts
theorem ok__law_marking (F : FnP K "_law_marking" st__law_marking f fd) (m_str : mg "str" = none) (m_isinstance : mg "isinstance" = none) (m_int : mg "int" = none) (m_bool : mg "bool" = none) (m_tuple : mg "tuple" = none) (m_list : mg "list" = none) (m_dict : mg "dict" = none) : FnOk P w K mg base (L2N.CX P w) 1 f fd ps__law_marking (toSp K mg ps__law_marking.length S__law_marking) :=
  fnok F sc__law_marking (fun X e1 e2 e3 e4 e5 h ho => w__law_marking h ho (none_here e4 m_str) (none_here e4 m_isinstance) (none_here e4 m_int) (none_here e4 m_bool) (none_here e4 m_tuple) (none_here e4 m_list) (none_here e4 m_dict)) p__law_marking
theorem ok__law_classes (F : FnP K "_law_classes" st__law_classes f fd) (n_NothingBack : ∃ C, mg (Str.ofString "NothingBack") = some (.ref C)) (n_BadPaper : ∃ C, mg (Str.ofString "BadPaper") = some (.ref C)) (n_Differs : ∃ C, mg (Str.ofString "Differs") = some (.ref C)) (n_Waiting : ∃ C, mg (Str.ofString "Waiting") = some (.ref C)) (n_NotOne : ∃ C, mg (Str.ofString "NotOne") = some (.ref C)) (n_BadHead : ∃ C, mg (Str.ofString "BadHead") = some (.ref C)) (n_Knotted : ∃ C, mg (Str.ofString "Knotted") = some (.ref C)) (n_BadTree : ∃ C, mg (Str.ofString "BadTree") = some (.ref C)) (n_BadOrder : ∃ C, mg (Str.ofString "BadOrder") = some (.ref C)) (n_BadCut : ∃ C, mg (Str.ofString "BadCut") = some (.ref C)) (n_NothingLeft : ∃ C, mg (Str.ofString "NothingLeft") = some (.ref C)) (n_Bare : ∃ C, mg (Str.ofString "Bare") = some (.ref C)) (n_Gap : ∃ C, mg (Str.ofString "Gap") = some (.ref C)) (n_NotKept : ∃ C, mg (Str.ofString "NotKept") = some (.ref C)) (n_BadLetter : ∃ C, mg (Str.ofString "BadLetter") = some (.ref C)) (n_BadBlock : ∃ C, mg (Str.ofString "BadBlock") = some (.ref C)) (n_BadCount : ∃ C, mg (Str.ofString "BadCount") = some (.ref C)) (n_BadNumber : ∃ C, mg (Str.ofString "BadNumber") = some (.ref C)) (n_BadShape : ∃ C, mg (Str.ofString "BadShape") = some (.ref C)) (n_NoLine : ∃ C, mg (Str.ofString "NoLine") = some (.ref C)) (n_NotShown : ∃ C, mg (Str.ofString "NotShown") = some (.ref C)) (n_NotClosed : ∃ C, mg (Str.ofString "NotClosed") = some (.ref C)) (n_BadLot : ∃ C, mg (Str.ofString "BadLot") = some (.ref C)) (n_BadKind : ∃ C, mg (Str.ofString "BadKind") = some (.ref C)) (n_NotAssociative : ∃ C, mg (Str.ofString "NotAssociative") = some (.ref C)) (n_BadTable : ∃ C, mg (Str.ofString "BadTable") = some (.ref C)) (n_TooMany : ∃ C, mg (Str.ofString "TooMany") = some (.ref C)) (n_Strange : ∃ C, mg (Str.ofString "Strange") = some (.ref C)) (n_BadLine : ∃ C, mg (Str.ofString "BadLine") = some (.ref C)) (m_range : mg "range" = none) (m_isinstance : mg "isinstance" = none) : ∀ i oe C, HotO K mg i oe C → FnHp P w K mg base 1 f fd ps__law_classes i.a oe (toSpH K mg ps__law_classes.length S__law_classes i) :=
  fnokH F sc__law_classes (fun X e1 e2 e3 e4 e5 h => w__law_classes h (cls_here e4 n_NothingBack) (cls_here e4 n_BadPaper) (cls_here e4 n_Differs) (cls_here e4 n_Waiting) (cls_here e4 n_NotOne) (cls_here e4 n_BadHead) (cls_here e4 n_Knotted) (cls_here e4 n_BadTree) (cls_here e4 n_BadOrder) (cls_here e4 n_BadCut) (cls_here e4 n_NothingLeft) (cls_here e4 n_Bare) (cls_here e4 n_Gap) (cls_here e4 n_NotKept) (cls_here e4 n_BadLetter) (cls_here e4 n_BadBlock) (cls_here e4 n_BadCount) (cls_here e4 n_BadNumber) (cls_here e4 n_BadShape) (cls_here e4 n_NoLine) (cls_here e4 n_NotShown) (cls_here e4 n_NotClosed) (cls_here e4 n_BadLot) (cls_here e4 n_BadKind) (cls_here e4 n_NotAssociative) (cls_here e4 n_BadTable) (cls_here e4 n_TooMany) (cls_here e4 n_Strange) (cls_here e4 n_BadLine) (none_here e4 m_range) (none_here e4 m_isinstance)) p__law_classes
theorem ok__law_due (F : FnP K "_law_due" st__law_due f fd) : FnOk P w K mg base (L2N.CX P w) 1 f fd ps__law_due (toSp K mg ps__law_due.length S__law_due) :=
  fnok F sc__law_due (fun X e1 e2 e3 e4 e5 h ho => w__law_due h ho) p__law_due
theorem ok__law_between (F : FnP K "_law_between" st__law_between f fd) (c__law_take : DFn P w K mg base "_law_take" ps__law_take 1 S__law_take) : FnOk P w K mg base (L2N.CX P w) 2 f fd ps__law_between (toSp K mg ps__law_between.length S__law_between) :=
  fnok F sc__law_between (fun X e1 e2 e3 e4 e5 h ho => w__law_between h ho (c__law_take.here e1 e2 e3 e4 e5) rfl) p__law_between
theorem ok__law_wild (F : FnP K "_law_wild" st__law_wild f fd) (c__law_take : DFn P w K mg base "_law_take" ps__law_take 1 S__law_take) : FnOk P w K mg base (L2N.CX P w) 2 f fd ps__law_wild (toSp K mg ps__law_wild.length S__law_wild) :=
  fnok F sc__law_wild (fun X e1 e2 e3 e4 e5 h ho => w__law_wild h ho (c__law_take.here e1 e2 e3 e4 e5) rfl) p__law_wild
theorem ok__law_same (F : FnP K "_law_same" st__law_same f fd) (c__law_parts : DFn P w K mg base "_law_parts" ps__law_parts 1 S__law_parts) (c__law_marking : DFn P w K mg base "_law_marking" ps__law_marking 1 S__law_marking) (m_range : mg "range" = none) (m_len : mg "len" = none) (m_repr : mg "repr" = none) : FnOk P w K mg base (L2N.CX P w) 2 f fd ps__law_same (toSp K mg ps__law_same.length S__law_same) :=
  fnok F sc__law_same (fun X e1 e2 e3 e4 e5 h ho => w__law_same h ho (c__law_parts.here e1 e2 e3 e4 e5) rfl (c__law_marking.here e1 e2 e3 e4 e5) rfl (none_here e4 m_range) (none_here e4 m_len) (none_here e4 m_repr)) p__law_same
theorem ok__law_caught (F : FnP K "_law_caught" st__law_caught f fd) (c__law_classes : DFnH P w K mg base "_law_classes" ps__law_classes 1 S__law_classes) (m_ValueError : mg "ValueError" = none) (m_isinstance : mg "isinstance" = none) : ∀ i oe C, HotO K mg i oe C → FnHp P w K mg base 2 f fd ps__law_caught i.a oe (toSpH K mg ps__law_caught.length S__law_caught i) :=
  fnokH F sc__law_caught (fun X e1 e2 e3 e4 e5 h => w__law_caught h (c__law_classes.here e1 e2 e3 e4 e5) rfl (none_here e4 m_ValueError) (none_here e4 m_isinstance)) p__law_caught
theorem ok__law_right (F : FnP K "_law_right" st__law_right f fd) (c__law_whole : DFn P w K mg base "_law_whole" ps__law_whole 1 S__law_whole) (m_int : mg "int" = none) (m_len : mg "len" = none) (m_tuple : mg "tuple" = none) (m_isinstance : mg "isinstance" = none) (m_list : mg "list" = none) : FnOk P w K mg base (L2N.CX P w) 2 f fd ps__law_right (toSp K mg ps__law_right.length S__law_right) :=
  fnok F sc__law_right (fun X e1 e2 e3 e4 e5 h ho => w__law_right h ho (c__law_whole.here e1 e2 e3 e4 e5) rfl (none_here e4 m_int) (none_here e4 m_len) (none_here e4 m_tuple) (none_here e4 m_isinstance) (none_here e4 m_list)) p__law_right
theorem ok__law_answer (F : FnP K "_law_answer" st__law_answer f fd) (n_CornerError : ∃ C, mg (Str.ofString "CornerError") = some (.ref C)) (c_aligned_spans : DFn P w K mg base "aligned_spans" ps_aligned_spans 1 S_aligned_spans) (c__law_caught : DFnH P w K mg base "_law_caught" ps__law_caught 2 S__law_caught) : FnOk P w K mg base (L2N.CX P w) 3 f fd ps__law_answer (toSp K mg ps__law_answer.length S__law_answer) :=
  fnok F sc__law_answer (fun X e1 e2 e3 e4 e5 h ho => w__law_answer h ho (cls_here e4 n_CornerError) (c_aligned_spans.here e1 e2 e3 e4 e5) rfl (c__law_caught.here e1 e2 e3 e4 e5) rfl) p__law_answer
theorem ok__law_levels (F : FnP K "_law_levels" st__law_levels f fd) (n_CornerError : ∃ C, mg (Str.ofString "CornerError") = some (.ref C)) (c_levels : DFn P w K mg base "levels" ps_levels 1 S_levels) (c__law_caught : DFnH P w K mg base "_law_caught" ps__law_caught 2 S__law_caught) : FnOk P w K mg base (L2N.CX P w) 3 f fd ps__law_levels (toSp K mg ps__law_levels.length S__law_levels) :=
  fnok F sc__law_levels (fun X e1 e2 e3 e4 e5 h ho => w__law_levels h ho (cls_here e4 n_CornerError) (c_levels.here e1 e2 e3 e4 e5) rfl (c__law_caught.here e1 e2 e3 e4 e5) rfl) p__law_levels
theorem ok__law_triple (F : FnP K "_law_triple" st__law_triple f fd) (c__law_wild : DFn P w K mg base "_law_wild" ps__law_wild 2 S__law_wild) (c__law_take : DFn P w K mg base "_law_take" ps__law_take 1 S__law_take) : FnOk P w K mg base (L2N.CX P w) 3 f fd ps__law_triple (toSp K mg ps__law_triple.length S__law_triple) :=
  fnok F sc__law_triple (fun X e1 e2 e3 e4 e5 h ho => w__law_triple h ho (c__law_wild.here e1 e2 e3 e4 e5) rfl (c__law_take.here e1 e2 e3 e4 e5) rfl) p__law_triple
theorem ok_law (F : FnP K "law" st_law f fd) (c__law_answer : DFn P w K mg base "_law_answer" ps__law_answer 3 S__law_answer) (c__law_right : DFn P w K mg base "_law_right" ps__law_right 2 S__law_right) (c__law_due : DFn P w K mg base "_law_due" ps__law_due 1 S__law_due) (c__law_same : DFn P w K mg base "_law_same" ps__law_same 2 S__law_same) (c__law_triple : DFn P w K mg base "_law_triple" ps__law_triple 3 S__law_triple) (c__law_take : DFn P w K mg base "_law_take" ps__law_take 1 S__law_take) (c__law_between : DFn P w K mg base "_law_between" ps__law_between 2 S__law_between) (c__law_wild : DFn P w K mg base "_law_wild" ps__law_wild 2 S__law_wild) (c__law_levels : DFn P w K mg base "_law_levels" ps__law_levels 3 S__law_levels) (c__law_store : DFn P w K mg base "_law_store" ps__law_store 1 S__law_store) (m_range : mg "range" = none) (m_len : mg "len" = none) : FnOk P w K mg base (L2N.CX P w) 4 f fd ["script"] (spLaw K) :=
  fnok_law rfl F sc_law (fun X e1 e2 e3 e4 e5 h => ds_asg rfl rfl tg_name (h.call (c__law_store.here e1 e2 e3 e4 e5) rfl (by decide +kernel) (pls_cons pl_name pls_nil) (da_cons pl_name (h.var (i := 0) (by decide +kernel)) da_nil)) (h.tg (by decide +kernel))) (fun X e1 e2 e3 e4 e5 h ho => w_law h ho (c__law_answer.here e1 e2 e3 e4 e5) rfl (c__law_right.here e1 e2 e3 e4 e5) rfl (c__law_due.here e1 e2 e3 e4 e5) rfl (c__law_same.here e1 e2 e3 e4 e5) rfl (c__law_triple.here e1 e2 e3 e4 e5) rfl (c__law_take.here e1 e2 e3 e4 e5) rfl (c__law_between.here e1 e2 e3 e4 e5) rfl (c__law_wild.here e1 e2 e3 e4 e5) rfl (c__law_levels.here e1 e2 e3 e4 e5) rfl (none_here e4 m_range) (none_here e4 m_len)) p_law
end
def d_levels : He.DefD := ⟨("levels", none), "levels", "levels", defArgs st_levels, defBody st_levels, defScope st_levels, [], []⟩
def d_aligned_spans : He.DefD := ⟨("aligned_spans", none), "aligned_spans", "aligned_spans", defArgs st_aligned_spans, defBody st_aligned_spans, defScope st_aligned_spans, [], []⟩
def d__law_store : He.DefD := ⟨("_law_store", none), "_law_store", "_law_store", defArgs st__law_store, defBody st__law_store, defScope st__law_store, [], []⟩
def d__law_take : He.DefD := ⟨("_law_take", none), "_law_take", "_law_take", defArgs st__law_take, defBody st__law_take, defScope st__law_take, [], []⟩
def d__law_whole : He.DefD := ⟨("_law_whole", none), "_law_whole", "_law_whole", defArgs st__law_whole, defBody st__law_whole, defScope st__law_whole, [], []⟩
def d__law_parts : He.DefD := ⟨("_law_parts", none), "_law_parts", "_law_parts", defArgs st__law_parts, defBody st__law_parts, defScope st__law_parts, [], []⟩
def d__law_marking : He.DefD := ⟨("_law_marking", none), "_law_marking", "_law_marking", defArgs st__law_marking, defBody st__law_marking, defScope st__law_marking, [], []⟩
def d__law_classes : He.DefD := ⟨("_law_classes", none), "_law_classes", "_law_classes", defArgs st__law_classes, defBody st__law_classes, defScope st__law_classes, [], []⟩
def d__law_due : He.DefD := ⟨("_law_due", none), "_law_due", "_law_due", defArgs st__law_due, defBody st__law_due, defScope st__law_due, [], []⟩
def d__law_between : He.DefD := ⟨("_law_between", none), "_law_between", "_law_between", defArgs st__law_between, defBody st__law_between, defScope st__law_between, [], []⟩
def d__law_wild : He.DefD := ⟨("_law_wild", none), "_law_wild", "_law_wild", defArgs st__law_wild, defBody st__law_wild, defScope st__law_wild, [], []⟩
def d__law_same : He.DefD := ⟨("_law_same", none), "_law_same", "_law_same", defArgs st__law_same, defBody st__law_same, defScope st__law_same, [], []⟩
def d__law_caught : He.DefD := ⟨("_law_caught", none), "_law_caught", "_law_caught", defArgs st__law_caught, defBody st__law_caught, defScope st__law_caught, [], []⟩
def d__law_right : He.DefD := ⟨("_law_right", none), "_law_right", "_law_right", defArgs st__law_right, defBody st__law_right, defScope st__law_right, [], []⟩
def d__law_answer : He.DefD := ⟨("_law_answer", none), "_law_answer", "_law_answer", defArgs st__law_answer, defBody st__law_answer, defScope st__law_answer, [], []⟩
def d__law_levels : He.DefD := ⟨("_law_levels", none), "_law_levels", "_law_levels", defArgs st__law_levels, defBody st__law_levels, defScope st__law_levels, [], []⟩
def d__law_triple : He.DefD := ⟨("_law_triple", none), "_law_triple", "_law_triple", defArgs st__law_triple, defBody st__law_triple, defScope st__law_triple, [], []⟩
def d_law : He.DefD := ⟨("law", none), "law", "law", defArgs st_law, defBody st_law, defScope st_law, [], []⟩
def fn : List He.DefD := [d_levels, d_aligned_spans, d__law_store, d__law_take, d__law_whole, d__law_parts, d__law_marking, d__law_classes, d__law_due, d__law_between, d__law_wild, d__law_same, d__law_caught, d__law_right, d__law_answer, d__law_levels, d__law_triple, d_law]
def fa : List He.Fa := [.glo "levels", .glo "aligned_spans", .glo "_law_store", .glo "_law_take", .glo "_law_whole", .glo "_law_parts", .glo "_law_marking", .glo "_law_classes", .glo "_law_due", .glo "_law_between", .glo "_law_wild", .glo "_law_same", .glo "_law_caught", .glo "_law_right", .glo "_law_answer", .glo "_law_levels", .glo "_law_triple", .glo "law", .glo "NothingBack", .glo "BadPaper", .glo "Differs", .glo "Waiting", .glo "NotOne", .glo "BadHead", .glo "Knotted", .glo "BadTree", .glo "BadOrder", .glo "BadCut", .glo "NothingLeft", .glo "Bare", .glo "Gap", .glo "NotKept", .glo "BadLetter", .glo "BadBlock", .glo "BadCount", .glo "BadNumber", .glo "BadShape", .glo "NoLine", .glo "NotShown", .glo "NotClosed", .glo "BadLot", .glo "BadKind", .glo "NotAssociative", .glo "BadTable", .glo "TooMany", .glo "Strange", .glo "BadLine", .glo "CornerError", .free "len", .free "abs", .free "int", .free "max", .free "bool", .free "isinstance", .free "list", .free "dict", .free "str", .free "tuple", .free "range", .free "repr", .free "ValueError", .int "MOST_LINES" 16]
abbrev R : PySem.W.OpenRow := PySem.W.OpenLaw.row PySem.Challenge.rw_corneralike_k25_aligned_spans
def ex (K : PySem.W.Frag) : Bool := ["BadNumber"].all (er0B K)
abbrev hk : PySem.W.Hook := hookB 4 fa fn ex
def ob (s : PySem.W.SharedT) : He.AlD × Bool := obsB 4 fa fn ex (HandSHeadRun.getT s)
theorem ob_eq (s : PySem.W.SharedT) : ob s = hk.obs s.abs := obsB_eq (HandSHeadRun.getT_eq s)
def names0 : List PySem.Str := ["copied", "CornerError", "BadLine", "Strange", "TooMany", "BadTable", "NotAssociative", "BadKind", "BadLot", "NotClosed", "NotShown", "NoLine", "BadShape", "BadNumber", "BadCount", "BadBlock", "BadLetter", "NotKept", "Gap", "Bare", "NothingLeft", "BadCut", "BadOrder", "BadTree", "Knotted", "BadHead", "NotOne", "Waiting", "Differs", "BadPaper"]
def names1 : List PySem.Str := ["NothingBack", "MOST_LINES", "levels", "aligned_spans", "_law_store", "_law_take", "_law_between", "_law_wild", "_law_whole", "_law_parts", "_law_marking", "_law_same", "_law_classes", "_law_caught", "_law_due", "_law_answer", "_law_levels", "_law_right", "_law_triple"]
def names : List PySem.Str := names0 ++ names1
theorem run (w : World) : HandSHeadRun.RunEq R (PySem.W.view R.prog [52]) hk ob 100000 names w := by
  intro os
  kernel_rfl
theorem facts {P : Program} {w : World} {K : PySem.W.Frag} {h : Heap} {mg : Str → Option Value} {f : Addr} (X : K.In h) (G : h.Ns mainGlobals mg) (hfa : mg ("law" : Str) = some (.ref f)) (c : He.SaysD fa fn K) (cx : ex K = true) :
    ∃ fd : FuncData, (∀ (s : Shared) (v : Value), BindsTo s fd ⟨[v], []⟩ [("script", v)]) ∧ ∀ base : Heap, K.In base → base.Ns mainGlobals mg → FnOk P w K mg base (fun _ _ _ _ _ _ => False) 4 f fd ["script"] (spLaw K) := by
  obtain ⟨fd_levels, F_levels⟩ := c.def_ 0 (d := d_levels) rfl
  obtain ⟨fd_aligned_spans, F_aligned_spans⟩ := c.def_ 1 (d := d_aligned_spans) rfl
  obtain ⟨fd__law_store, F__law_store⟩ := c.def_ 2 (d := d__law_store) rfl
  obtain ⟨fd__law_take, F__law_take⟩ := c.def_ 3 (d := d__law_take) rfl
  obtain ⟨fd__law_whole, F__law_whole⟩ := c.def_ 4 (d := d__law_whole) rfl
  obtain ⟨fd__law_parts, F__law_parts⟩ := c.def_ 5 (d := d__law_parts) rfl
  obtain ⟨fd__law_marking, F__law_marking⟩ := c.def_ 6 (d := d__law_marking) rfl
  obtain ⟨fd__law_classes, F__law_classes⟩ := c.def_ 7 (d := d__law_classes) rfl
  obtain ⟨fd__law_due, F__law_due⟩ := c.def_ 8 (d := d__law_due) rfl
  obtain ⟨fd__law_between, F__law_between⟩ := c.def_ 9 (d := d__law_between) rfl
  obtain ⟨fd__law_wild, F__law_wild⟩ := c.def_ 10 (d := d__law_wild) rfl
  obtain ⟨fd__law_same, F__law_same⟩ := c.def_ 11 (d := d__law_same) rfl
  obtain ⟨fd__law_caught, F__law_caught⟩ := c.def_ 12 (d := d__law_caught) rfl
  obtain ⟨fd__law_right, F__law_right⟩ := c.def_ 13 (d := d__law_right) rfl
  obtain ⟨fd__law_answer, F__law_answer⟩ := c.def_ 14 (d := d__law_answer) rfl
  obtain ⟨fd__law_levels, F__law_levels⟩ := c.def_ 15 (d := d__law_levels) rfl
  obtain ⟨fd__law_triple, F__law_triple⟩ := c.def_ 16 (d := d__law_triple) rfl
  obtain ⟨fd_law, F_law⟩ := c.def_ 17 (d := d_law) rfl
  have m_len : mg "len" = none := He.free_ok X G (c.fact 48 (f := .free "len") rfl)
  have m_abs : mg "abs" = none := He.free_ok X G (c.fact 49 (f := .free "abs") rfl)
  have m_int : mg "int" = none := He.free_ok X G (c.fact 50 (f := .free "int") rfl)
  have m_max : mg "max" = none := He.free_ok X G (c.fact 51 (f := .free "max") rfl)
  have m_bool : mg "bool" = none := He.free_ok X G (c.fact 52 (f := .free "bool") rfl)
  have m_isinstance : mg "isinstance" = none := He.free_ok X G (c.fact 53 (f := .free "isinstance") rfl)
  have m_list : mg "list" = none := He.free_ok X G (c.fact 54 (f := .free "list") rfl)
  have m_dict : mg "dict" = none := He.free_ok X G (c.fact 55 (f := .free "dict") rfl)
  have m_str : mg "str" = none := He.free_ok X G (c.fact 56 (f := .free "str") rfl)
  have m_tuple : mg "tuple" = none := He.free_ok X G (c.fact 57 (f := .free "tuple") rfl)
  have m_range : mg "range" = none := He.free_ok X G (c.fact 58 (f := .free "range") rfl)
  have m_repr : mg "repr" = none := He.free_ok X G (c.fact 59 (f := .free "repr") rfl)
  have m_ValueError : mg "ValueError" = none := He.free_ok X G (c.fact 60 (f := .free "ValueError") rfl)
  have n_NothingBack : ∃ C, mg (Str.ofString "NothingBack") = some (.ref C) := ⟨_, He.glo_ok X G (c.fact 18 (f := .glo "NothingBack") rfl)⟩
  have n_BadPaper : ∃ C, mg (Str.ofString "BadPaper") = some (.ref C) := ⟨_, He.glo_ok X G (c.fact 19 (f := .glo "BadPaper") rfl)⟩
  have n_Differs : ∃ C, mg (Str.ofString "Differs") = some (.ref C) := ⟨_, He.glo_ok X G (c.fact 20 (f := .glo "Differs") rfl)⟩
  have n_Waiting : ∃ C, mg (Str.ofString "Waiting") = some (.ref C) := ⟨_, He.glo_ok X G (c.fact 21 (f := .glo "Waiting") rfl)⟩
  have n_NotOne : ∃ C, mg (Str.ofString "NotOne") = some (.ref C) := ⟨_, He.glo_ok X G (c.fact 22 (f := .glo "NotOne") rfl)⟩
  have n_BadHead : ∃ C, mg (Str.ofString "BadHead") = some (.ref C) := ⟨_, He.glo_ok X G (c.fact 23 (f := .glo "BadHead") rfl)⟩
  have n_Knotted : ∃ C, mg (Str.ofString "Knotted") = some (.ref C) := ⟨_, He.glo_ok X G (c.fact 24 (f := .glo "Knotted") rfl)⟩
  have n_BadTree : ∃ C, mg (Str.ofString "BadTree") = some (.ref C) := ⟨_, He.glo_ok X G (c.fact 25 (f := .glo "BadTree") rfl)⟩
  have n_BadOrder : ∃ C, mg (Str.ofString "BadOrder") = some (.ref C) := ⟨_, He.glo_ok X G (c.fact 26 (f := .glo "BadOrder") rfl)⟩
  have n_BadCut : ∃ C, mg (Str.ofString "BadCut") = some (.ref C) := ⟨_, He.glo_ok X G (c.fact 27 (f := .glo "BadCut") rfl)⟩
  have n_NothingLeft : ∃ C, mg (Str.ofString "NothingLeft") = some (.ref C) := ⟨_, He.glo_ok X G (c.fact 28 (f := .glo "NothingLeft") rfl)⟩
  have n_Bare : ∃ C, mg (Str.ofString "Bare") = some (.ref C) := ⟨_, He.glo_ok X G (c.fact 29 (f := .glo "Bare") rfl)⟩
  have n_Gap : ∃ C, mg (Str.ofString "Gap") = some (.ref C) := ⟨_, He.glo_ok X G (c.fact 30 (f := .glo "Gap") rfl)⟩
  have n_NotKept : ∃ C, mg (Str.ofString "NotKept") = some (.ref C) := ⟨_, He.glo_ok X G (c.fact 31 (f := .glo "NotKept") rfl)⟩
  have n_BadLetter : ∃ C, mg (Str.ofString "BadLetter") = some (.ref C) := ⟨_, He.glo_ok X G (c.fact 32 (f := .glo "BadLetter") rfl)⟩
  have n_BadBlock : ∃ C, mg (Str.ofString "BadBlock") = some (.ref C) := ⟨_, He.glo_ok X G (c.fact 33 (f := .glo "BadBlock") rfl)⟩
  have n_BadCount : ∃ C, mg (Str.ofString "BadCount") = some (.ref C) := ⟨_, He.glo_ok X G (c.fact 34 (f := .glo "BadCount") rfl)⟩
  have n_BadNumber : ∃ C, mg (Str.ofString "BadNumber") = some (.ref C) := ⟨_, He.glo_ok X G (c.fact 35 (f := .glo "BadNumber") rfl)⟩
  have n_BadShape : ∃ C, mg (Str.ofString "BadShape") = some (.ref C) := ⟨_, He.glo_ok X G (c.fact 36 (f := .glo "BadShape") rfl)⟩
  have n_NoLine : ∃ C, mg (Str.ofString "NoLine") = some (.ref C) := ⟨_, He.glo_ok X G (c.fact 37 (f := .glo "NoLine") rfl)⟩
  have n_NotShown : ∃ C, mg (Str.ofString "NotShown") = some (.ref C) := ⟨_, He.glo_ok X G (c.fact 38 (f := .glo "NotShown") rfl)⟩
  have n_NotClosed : ∃ C, mg (Str.ofString "NotClosed") = some (.ref C) := ⟨_, He.glo_ok X G (c.fact 39 (f := .glo "NotClosed") rfl)⟩
  have n_BadLot : ∃ C, mg (Str.ofString "BadLot") = some (.ref C) := ⟨_, He.glo_ok X G (c.fact 40 (f := .glo "BadLot") rfl)⟩
  have n_BadKind : ∃ C, mg (Str.ofString "BadKind") = some (.ref C) := ⟨_, He.glo_ok X G (c.fact 41 (f := .glo "BadKind") rfl)⟩
  have n_NotAssociative : ∃ C, mg (Str.ofString "NotAssociative") = some (.ref C) := ⟨_, He.glo_ok X G (c.fact 42 (f := .glo "NotAssociative") rfl)⟩
  have n_BadTable : ∃ C, mg (Str.ofString "BadTable") = some (.ref C) := ⟨_, He.glo_ok X G (c.fact 43 (f := .glo "BadTable") rfl)⟩
  have n_TooMany : ∃ C, mg (Str.ofString "TooMany") = some (.ref C) := ⟨_, He.glo_ok X G (c.fact 44 (f := .glo "TooMany") rfl)⟩
  have n_Strange : ∃ C, mg (Str.ofString "Strange") = some (.ref C) := ⟨_, He.glo_ok X G (c.fact 45 (f := .glo "Strange") rfl)⟩
  have n_BadLine : ∃ C, mg (Str.ofString "BadLine") = some (.ref C) := ⟨_, He.glo_ok X G (c.fact 46 (f := .glo "BadLine") rfl)⟩
  have n_CornerError : ∃ C, mg (Str.ofString "CornerError") = some (.ref C) := ⟨_, He.glo_ok X G (c.fact 47 (f := .glo "CornerError") rfl)⟩
  have x_BadNumber : Er0 K mg "BadNumber" := er0B_ok X G (List.all_eq_true.mp cx _ (by simp))
  have g_MOST_LINES : ∃ t, mg "MOST_LINES" = some (.int 16 t) := He.int_ok X G (c.fact 61 (f := .int "MOST_LINES" 16) rfl)
  have e := hfa.symm.trans (He.glo_ok X G (c.fact 17 (f := .glo "law") rfl))
  cases e
  have b := FunD.bindsA (ps := ["script"]) F_law fun _ _ _ _ _ _ us hl => match us, hl with | [_], _ => rfl
  refine ⟨fd_law, fun s v => b s [v] rfl, fun base _ _ => ?_⟩
  have D_levels : DFn P w K mg base "levels" ps_levels 1 S_levels := ⟨_, _, He.glo_ok X G (c.fact 0 (f := .glo "levels") rfl), F_levels.kp, FunD.bindsN F_levels fun _ _ _ _ _ _ us hl => match us, hl with | [_], _ => rfl, ok_levels F_levels x_BadNumber g_MOST_LINES⟩
  have D_aligned_spans : DFn P w K mg base "aligned_spans" ps_aligned_spans 1 S_aligned_spans := ⟨_, _, He.glo_ok X G (c.fact 1 (f := .glo "aligned_spans") rfl), F_aligned_spans.kp, FunD.bindsN F_aligned_spans fun _ _ _ _ _ _ us hl => match us, hl with | [_, _, _], _ => rfl, ok_aligned_spans F_aligned_spans x_BadNumber g_MOST_LINES⟩
  have D__law_store : DFn P w K mg base "_law_store" ps__law_store 1 S__law_store := ⟨_, _, He.glo_ok X G (c.fact 2 (f := .glo "_law_store") rfl), F__law_store.kp, FunD.bindsN F__law_store fun _ _ _ _ _ _ us hl => match us, hl with | [_], _ => rfl, ok__law_store F__law_store m_len m_abs m_int⟩
  have D__law_take : DFn P w K mg base "_law_take" ps__law_take 1 S__law_take := ⟨_, _, He.glo_ok X G (c.fact 3 (f := .glo "_law_take") rfl), F__law_take.kp, FunD.bindsN F__law_take fun _ _ _ _ _ _ us hl => match us, hl with | [_, _], _ => rfl, ok__law_take F__law_take m_int m_max m_len⟩
  have D__law_whole : DFn P w K mg base "_law_whole" ps__law_whole 1 S__law_whole := ⟨_, _, He.glo_ok X G (c.fact 4 (f := .glo "_law_whole") rfl), F__law_whole.kp, FunD.bindsN F__law_whole fun _ _ _ _ _ _ us hl => match us, hl with | [_], _ => rfl, ok__law_whole F__law_whole m_bool m_isinstance m_int⟩
  have D__law_parts : DFn P w K mg base "_law_parts" ps__law_parts 1 S__law_parts := ⟨_, _, He.glo_ok X G (c.fact 5 (f := .glo "_law_parts") rfl), F__law_parts.kp, FunD.bindsN F__law_parts fun _ _ _ _ _ _ us hl => match us, hl with | [_], _ => rfl, ok__law_parts F__law_parts m_list m_dict m_isinstance⟩
  have D__law_marking : DFn P w K mg base "_law_marking" ps__law_marking 1 S__law_marking := ⟨_, _, He.glo_ok X G (c.fact 6 (f := .glo "_law_marking") rfl), F__law_marking.kp, FunD.bindsN F__law_marking fun _ _ _ _ _ _ us hl => match us, hl with | [_], _ => rfl, ok__law_marking F__law_marking m_str m_isinstance m_int m_bool m_tuple m_list m_dict⟩
  have D__law_classes : DFnH P w K mg base "_law_classes" ps__law_classes 1 S__law_classes := ⟨_, _, He.glo_ok X G (c.fact 7 (f := .glo "_law_classes") rfl), F__law_classes.kp, FunD.bindsN F__law_classes fun _ _ _ _ _ _ us hl => match us, hl with | [_], _ => rfl, ok__law_classes F__law_classes n_NothingBack n_BadPaper n_Differs n_Waiting n_NotOne n_BadHead n_Knotted n_BadTree n_BadOrder n_BadCut n_NothingLeft n_Bare n_Gap n_NotKept n_BadLetter n_BadBlock n_BadCount n_BadNumber n_BadShape n_NoLine n_NotShown n_NotClosed n_BadLot n_BadKind n_NotAssociative n_BadTable n_TooMany n_Strange n_BadLine m_range m_isinstance⟩
  have D__law_due : DFn P w K mg base "_law_due" ps__law_due 1 S__law_due := ⟨_, _, He.glo_ok X G (c.fact 8 (f := .glo "_law_due") rfl), F__law_due.kp, FunD.bindsN F__law_due fun _ _ _ _ _ _ us hl => match us, hl with | [_, _], _ => rfl, ok__law_due F__law_due⟩
  have D__law_between : DFn P w K mg base "_law_between" ps__law_between 2 S__law_between := ⟨_, _, He.glo_ok X G (c.fact 9 (f := .glo "_law_between") rfl), F__law_between.kp, FunD.bindsN F__law_between fun _ _ _ _ _ _ us hl => match us, hl with | [_, _, _], _ => rfl, ok__law_between F__law_between D__law_take⟩
  have D__law_wild : DFn P w K mg base "_law_wild" ps__law_wild 2 S__law_wild := ⟨_, _, He.glo_ok X G (c.fact 10 (f := .glo "_law_wild") rfl), F__law_wild.kp, FunD.bindsN F__law_wild fun _ _ _ _ _ _ us hl => match us, hl with | [_], _ => rfl, ok__law_wild F__law_wild D__law_take⟩
  have D__law_same : DFn P w K mg base "_law_same" ps__law_same 2 S__law_same := ⟨_, _, He.glo_ok X G (c.fact 11 (f := .glo "_law_same") rfl), F__law_same.kp, FunD.bindsN F__law_same fun _ _ _ _ _ _ us hl => match us, hl with | [_, _], _ => rfl, ok__law_same F__law_same D__law_parts D__law_marking m_range m_len m_repr⟩
  have D__law_caught : DFnH P w K mg base "_law_caught" ps__law_caught 2 S__law_caught := ⟨_, _, He.glo_ok X G (c.fact 12 (f := .glo "_law_caught") rfl), F__law_caught.kp, FunD.bindsN F__law_caught fun _ _ _ _ _ _ us hl => match us, hl with | [_], _ => rfl, ok__law_caught F__law_caught D__law_classes m_ValueError m_isinstance⟩
  have D__law_right : DFn P w K mg base "_law_right" ps__law_right 2 S__law_right := ⟨_, _, He.glo_ok X G (c.fact 13 (f := .glo "_law_right") rfl), F__law_right.kp, FunD.bindsN F__law_right fun _ _ _ _ _ _ us hl => match us, hl with | [_, _, _], _ => rfl, ok__law_right F__law_right D__law_whole m_int m_len m_tuple m_isinstance m_list⟩
  have D__law_answer : DFn P w K mg base "_law_answer" ps__law_answer 3 S__law_answer := ⟨_, _, He.glo_ok X G (c.fact 14 (f := .glo "_law_answer") rfl), F__law_answer.kp, FunD.bindsN F__law_answer fun _ _ _ _ _ _ us hl => match us, hl with | [_, _, _], _ => rfl, ok__law_answer F__law_answer n_CornerError D_aligned_spans D__law_caught⟩
  have D__law_levels : DFn P w K mg base "_law_levels" ps__law_levels 3 S__law_levels := ⟨_, _, He.glo_ok X G (c.fact 15 (f := .glo "_law_levels") rfl), F__law_levels.kp, FunD.bindsN F__law_levels fun _ _ _ _ _ _ us hl => match us, hl with | [_], _ => rfl, ok__law_levels F__law_levels n_CornerError D_levels D__law_caught⟩
  have D__law_triple : DFn P w K mg base "_law_triple" ps__law_triple 3 S__law_triple := ⟨_, _, He.glo_ok X G (c.fact 16 (f := .glo "_law_triple") rfl), F__law_triple.kp, FunD.bindsN F__law_triple fun _ _ _ _ _ _ us hl => match us, hl with | [_, _], _ => rfl, ok__law_triple F__law_triple D__law_wild D__law_take⟩
  exact FnOk.quiet (ok_law F_law D__law_answer D__law_right D__law_due D__law_same D__law_triple D__law_take D__law_between D__law_wild D__law_levels D__law_store m_range m_len) fun vs H Q E h => h
end Lk25
open PySem PySem.W
open PySem.Calls PyProof.Rows
theorem PySem.Challenge.cw_corneralike_k25_aligned_spans_holds : PySem.Challenge.rw_corneralike_k25_aligned_spans.Holds := by
  w_on; o_law
  refine HandSHeadRun.head_any (r := OpenLaw.row PySem.Challenge.rw_corneralike_k25_aligned_spans) (q := view (OpenLaw.row PySem.Challenge.rw_corneralike_k25_aligned_spans).prog [52]) (H := Lk25.hk) (ob := Lk25.ob) (M := 100000) (loose := Lk25.names) (d := HandSHeadRun.topDef (OpenLaw.row PySem.Challenge.rw_corneralike_k25_aligned_spans).prog 52) (kwd := []) Lk25.ob_eq
    (by kernel_rfl) (fun s => by kernel_rfl) Lk25.run (by kernel_rfl) (by kernel_rfl) (by kernel_rfl) (by rfl) (by first | assumption | decide +kernel) (by decide +kernel) ⟨rfl, rfl, rfl, rfl, rfl, by decide +kernel⟩ ?hw ?hc
  case hw => w_witness2
  case hc =>
    refine L2.walk_ofE (l := PySem.Challenge.rw_corneralike_k25_aligned_spans) (n := 63) (k := 4) (x := "script") (CX := fun _ _ _ _ _ _ => False) rfl (by decide) (by kernel_rfl) ⟨rfl, by decide, by decide⟩ ?F (fun _ _ _ _ z => z)
    intro w mg fa h Y G hmg0
    obtain ⟨K, KX, c, cx⟩ := Y
    have hmg : mg ("law" : PySem.Str) = some (.ref fa) := by
      have e : (HandSHeadRun.topDef (OpenLaw.row PySem.Challenge.rw_corneralike_k25_aligned_spans).prog 52).name = ("law" : PySem.Str) := by kernel_rfl
      rw [← e]
      exact hmg0
    obtain ⟨fd, hb, hF⟩ := Lk25.facts (P := (PySem.Challenge.rw_corneralike_k25_aligned_spans).prog) (w := w) KX G hmg c cx
    exact ⟨K, fd, DL.spLaw K, KX, hb, fun H a ns hl _ hS => ⟨a, ns, rfl, hl, hS, fun _ => rfl⟩, hF⟩