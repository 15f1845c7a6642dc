import PyProof.Rows.All
import Wide.All
import OpenK.AllK
import Wide.FinOn
import KE.SortData
import HandS.ForMost
import HandS.Conv
import HandS.TupAny
import HandS.Deep
import HandS.Lambda
import HandS.SortInts
import HandS.Flt
import HandS.IsInst
import HandS.More
import HandS.Flow
import KE.GoesEnum
import HandS.Zip
import HandS.Strs
import HandS.SetFor
import KE.SortKeyHeap
import KE.KDictZip
import KE.KIndexOf
import KE.KRevSl
import HandS.Style
import KE.KStateDown
import KE.KNest
import HandS.Head0
import HandS.Head1
import HandS.Head2
import HandS.HeadEnd
import HandS.HeadHook1
import HandS.HeadHook2
import HandS.HeadHook3
import HandS.HeadHook4
import HandS.EndBits
import HandS.EndTab
import HandS.CallRecv
import HandS.HeadWalk
import PySem.Challenge.RW_nochaingains_k50_whole_rest_means_told_o
set_option Elab.async false
set_option linter.all false
set_option maxRecDepth 100000
/-! text Mi -/
set_option maxHeartbeats 4000000
namespace N50
open PySem

/-! ### the program, over plain data -/
structure Con where
  s : Int
  b : Int
  p : Int
/-- a choice of the five plain kinds -/
inductive Pl where
  | maker (room : Int) (b s : List Int)
  | sides (br : Int) (b : List Int) (sr : Int) (s : List Int)
  | table (rows : List (List Int))
  | trader (room cost : Int) (b s : List Int)
  | caps (b : List Int) (bg : List (List Int × Int)) (s : List Int) (sg : List (List Int × Int))
inductive Ch where
  | pl (c : Pl)
  | split (ps : List Pl)
structure Web where
  hs : List (Str × Ch)
  cs : List Con

def ins (x : Int) (xs : List Int) : Bool := decide (x ∈ xs)
def buysOf (cs : List Con) (h : Int) : List Int := (cs.zipIdx.filter fun q => decide (q.1.b = h)).map fun q => (q.2 : Int)
def sellsOf (cs : List Con) (h : Int) : List Int := (cs.zipIdx.filter fun q => decide (q.1.s = h)).map fun q => (q.2 : Int)
def ownOf (cs : List Con) (h : Int) : List Int := (cs.zipIdx.filter fun q => decide (h ∈ [q.1.s, q.1.b])).map fun q => (q.2 : Int)
def offer (row off : List Int) : List Int := row.filter fun x => decide (x ∈ off)
def chosenRow : List (List Int) → List Int → List Int
  | [], _ => []
  | r :: rs, off => if (r.map fun x => decide (x ∈ off)).all id = true then r else chosenRow rs off
/-- the price of a contract, by its number -/
def price (cs : List Con) (c : Int) : Int := match cs[c.toNat]? with | some k => k.p | none => 0
/-- the orders of a trader -/
def leB (cs : List Con) (x y : Int) : Bool := decide (price cs x < price cs y ∨ (price cs x = price cs y ∧ x ≤ y))
def leS (cs : List Con) (x y : Int) : Bool := decide (-price cs x < -price cs y ∨ (-price cs x = -price cs y ∧ x ≤ y))
/-- xs[:n], n of any size and sign -/
def upTo {α : Type} (xs : List α) (n : Int) : List α := xs.take (if n < 0 then (n + (xs.length : Int)).toNat else n.toNat)
def traded (cs : List Con) (room cost : Int) (b s off : List Int) : List Int :=
  let bs := (offer b off).mergeSort (leB cs)
  let ss := (offer s off).mergeSort (leS cs)
  let ps := upTo ((bs.zip ss).filter fun q => decide (price cs q.1 + cost < price cs q.2)) room
  ps.flatMap fun q => [q.1, q.2]
def capOk (gs : List (List Int × Int)) (found : List Int) (c : Int) : Bool := ((gs.filter fun g => decide (c ∈ g.1)).map fun g => decide (0 < g.2 - (((offer g.1 found).length : Nat) : Int))).all id
def capGo (gs : List (List Int × Int)) : List Int → List Int → List Int
  | [], found => found
  | c :: cs, found => capGo gs cs (if capOk gs found c = true then found ++ [c] else found)
def withinCaps (row : List Int) (gs : List (List Int × Int)) (off : List Int) : List Int := capGo gs (offer row off) []
def mn3 (i j k : Int) : Int := let m := if j < i then j else i; if k < m then k else m
def chosenP (cs : List Con) (c : Pl) (off : List Int) : List Int := match c with
  | .table rows => chosenRow rows off
  | .trader room cost b s => traded cs room cost b s off
  | .caps b bg s sg => withinCaps b bg off ++ withinCaps s sg off
  | .sides br b sr s => upTo (offer b off) br ++ upTo (offer s off) sr
  | .maker room b s => upTo (offer b off) (mn3 room (offer b off).length (offer s off).length) ++ upTo (offer s off) (mn3 room (offer b off).length (offer s off).length)
def chosenC (cs : List Con) (c : Ch) (off : List Int) : List Int := match c with
  | .pl p => chosenP cs p off
  | .split ps => ps.flatMap fun p => chosenP cs p off
def isort (ns : List Int) : List Int := ns.mergeSort fun a b => decide (a ≤ b)
/-- the choice of a house, by its number -/
def chOf (w : Web) (h : Int) : Ch := match w.hs[h.toNat]? with | some q => q.2 | none => .split []
def choose (w : Web) (h : Int) (off : List Int) : List Int := isort (chosenC w.cs (chOf w h) off)
def ownPart (w : Web) (h : Int) (xs : List Int) : List Int := xs.filter fun x => decide (x ∈ ownOf w.cs h)
/-- sorted, each one once -/
def uniq : List Int → List Int
  | [] => []
  | x :: xs => if x ∈ xs then uniq xs else x :: uniq xs
def joined (a b : List Int) : List Int := isort (uniq (a ++ b))
def idxs (n : Nat) : List Int := (List.range n).map fun (i : Nat) => (i : Int)
def firstDrop (w : Web) (net : List Int) : List Int → Option (Int × List Int)
  | [] => none
  | h :: hs => if choose w h net = ownPart w h net then firstDrop w net hs else some (h, choose w h net)
def firstDropping (w : Web) (net : List Int) : Option (Int × List Int) := firstDrop w net (idxs w.hs.length)
def takes (w : Web) (net : List Int) (h : Int) (cs : List Int) : Bool := (cs.map fun c => decide (c ∈ choose w h (joined net cs))).all id
def selOf (w : Web) (c : Int) : Int := match w.cs[c.toNat]? with | some k => k.s | none => 0
def buyOf (w : Web) (c : Int) : Int := match w.cs[c.toNat]? with | some k => k.b | none => 0
def begins (w : Web) (net : List Int) (c : Int) : Bool := takes w net (selOf w c) [c]
def ends (w : Web) (net : List Int) (c : Int) : Bool := takes w net (buyOf w c) [c]
def goesOn (w : Web) (net : List Int) (c d : Int) : Bool := decide (selOf w d = buyOf w c) && takes w net (buyOf w c) (isort [c, d])
def outsideOf (w : Web) (net : List Int) : List Int := (idxs w.cs.length).filter fun c => !decide (c ∈ net)
/-- the last of a row -/
def lastOf (row : List Int) : Int := row.getLast?.getD 0
def firstEnd (w : Web) (net : List Int) : List (List Int) → Option (List Int)
  | [] => none
  | r :: rs => if ends w net (lastOf r) = true then some r else firstEnd w net rs
/-- the rows that go on from one row: (reached, longer) -/
def growRow (w : Web) (net : List Int) (row : List Int) : List Int → List Int × List (List Int) → List Int × List (List Int)
  | [], q => q
  | c :: cs, q => growRow w net row cs (if (!decide (c ∈ q.1) && goesOn w net (lastOf row) c) = true then (q.1 ++ [c], q.2 ++ [row ++ [c]]) else q)
def growAll (w : Web) (net out : List Int) : List (List Int) → List Int × List (List Int) → List Int × List (List Int)
  | [], q => q
  | r :: rs, q => growAll w net out rs (growRow w net r out q)
/-- the search by rounds: n bounds the rounds -/
def chainGo (w : Web) (net out : List Int) : Nat → List Int → List (List Int) → Option (List Int)
  | 0, _, _ => none
  | n + 1, reached, rows =>
    if rows = [] then none else
    match firstEnd w net rows with
    | some r => some r
    | none => chainGo w net out n (growAll w net out rows (reached, [])).1 (growAll w net out rows (reached, [])).2
def gainingChain (w : Web) (net : List Int) : Option (List Int) :=
  let out := outsideOf w net
  let rows := (out.filter fun c => begins w net c).map fun c => [c]
  chainGo w net out (w.cs.length + 2) (rows.map lastOf) rows
/-- one round down: (the free houses, those that are left) -/
def soldTo (w : Web) (left : List Int) : List Int := (w.cs.filter fun c => decide (c.s ∈ left)).map fun c => c.b
def downGo (w : Web) : Nat → List Int → List Int → List Int
  | 0, order, _ => order
  | n + 1, order, left =>
    if left = [] then order else downGo w n (order ++ left.filter fun h => !decide (h ∈ soldTo w left)) (left.filter fun h => decide (h ∈ soldTo w left))
def housesDown (w : Web) : List Int := downGo w (w.hs.length + 1) [] (idxs w.hs.length)
/-- what is held by a house while its sales are asked -/
def heldOf (w : Web) (net found : List Int) (h : Int) : List Int := ((buysOf w.cs h).filter fun c => decide (c ∈ found)) ++ ((sellsOf w.cs h).filter fun c => decide (c ∈ net))
def openOne (w : Web) (net held : List Int) (h c : Int) : Bool := !decide (c ∈ net) && decide (c ∈ choose w h (isort (held ++ [c])))
def tellHouse (w : Web) (net : List Int) (found : List Int) (h : Int) : List Int := found ++ (sellsOf w.cs h).filter fun c => openOne w net (heldOf w net found h) h c
def toldOffers (w : Web) (net : List Int) : List Int := isort ((housesDown w).foldl (tellHouse w net) net)
def askedBehind (w : Web) (net off : List Int) : List Int := (idxs w.cs.length).filter fun c => decide (c ∈ net) || !decide (c ∈ off)
def offeredTo (w : Web) (h : Int) (off asked : List Int) : List Int := isort (((buysOf w.cs h).filter fun c => decide (c ∈ off)) ++ ((sellsOf w.cs h).filter fun c => decide (c ∈ asked)))
def judgeGo (w : Web) (net off asked : List Int) : List Int → Bool
  | [] => true
  | h :: hs => if choose w h (offeredTo w h off asked) = ownPart w h net then judgeGo w net off asked hs else false
def judge (w : Web) (net off : List Int) : Bool := if (net.map fun c => decide (c ∈ off)).all id = true then judgeGo w net off (askedBehind w net off) (idxs w.hs.length) else false
inductive Vd where
  | drops (h : Int) (ch : List Int)
  | chain (r : List Int)
  | rest (off : List Int)
def verdict (w : Web) (net : List Int) : Vd := match firstDropping w net with
  | some q => .drops q.1 q.2
  | none => match gainingChain w net with
    | some r => .chain r
    | none => .rest (toldOffers w net)
def isAtRest (w : Web) (net : List Int) : Bool := judge w net (toldOffers w net)
end N50
/-! text Lm -/
set_option maxHeartbeats 4000000
namespace N50
open PySem
/-! ### the law's own defs, over plain data; draws are taken from the end -/
def lCells (s : List Int) : List Int := if s = [] then [0] else s
def lOnce (c k : Int) : Int := (c * 48271 + k * 69621 + 11) % 2147483647
def lDrawStep (C : List Int) (q : List Int × List Int) (k : Int) : List Int × List Int :=
  if 10 ^ 18 ≤ C.getD (k % (C.length : Int)).toNat 0 then (q.1.set (k % (C.length : Int)).toNat (q.1.getD (k % (C.length : Int)).toNat 0 / 1000), q.2 ++ [q.1.getD (k % (C.length : Int)).toNat 0 % 1000])
  else (q.1, q.2 ++ [(lOnce (C.getD (k % (C.length : Int)).toNat 0) k * lOnce (C.getD (k % (C.length : Int)).toNat 0) k + 3 * lOnce (C.getD (k % (C.length : Int)).toNat 0) k + k) % 1000003])
def lDraws (s : List Int) (n : Nat) : List Int := ((idxs n).foldl (lDrawStep (lCells s)) (lCells s, [])).2.reverse
/-- the next draw below many -/
def tk (many : Int) (ds : List Int) : Int × List Int := if ds = [] then (0, []) else (ds.getLast?.getD 0 % many, ds.dropLast)
def lWordGo : Nat → Int → Str → Str
  | 0, _, w => w
  | n + 1, k, w => if k < 1 then w else lWordGo n ((k - 1) / 26) (⟨#[((Str.ofString "abcdefghijklmnopqrstuvwxyz").cps.toList.getD ((k - 1) % 26).toNat 0)]⟩ ++ w)
def lWord (k : Int) : Str := lWordGo 60 k ""
def lCell (s : List Int) (ds : List Int) : Int × List Int := if s = [] then (0, ds) else (s.getD (tk s.length ds).1.toNat 0, (tk s.length ds).2)
def lFull (gs : List (List Int × Int)) (found : List Int) (c : Int) : Bool := gs.any fun g => decide (c ∈ g.1) && decide (g.2 ≤ (((found.filter fun x => decide (x ∈ g.1)).length : Nat) : Int))
def lGreedy (ws : List Int) (gs : List (List Int × Int)) (off : List Int) : List Int := ws.foldl (fun fo c => if (decide (c ∈ off) && !lFull gs fo c) = true then fo ++ [c] else fo) []
def lPB (cs : List Con) (b off : List Int) : List (Int × Int) := ((offer b off).map fun c => (price cs c, c)).mergeSort fun p q => decide (p.1 < q.1 ∨ (p.1 = q.1 ∧ p.2 ≤ q.2))
def lPS (cs : List Con) (s off : List Int) : List (Int × Int) := ((offer s off).map fun c => (-price cs c, c)).mergeSort fun p q => decide (p.1 < q.1 ∨ (p.1 = q.1 ∧ p.2 ≤ q.2))
/-- pairs as long as they are worth it -/
def lPairsGo (cost : Int) : List ((Int × Int) × (Int × Int)) → List Int → List Int
  | [], fo => fo
  | q :: qs, fo => if -q.2.1 ≤ q.1.1 + cost then fo else lPairsGo cost qs (fo ++ [q.1.2, q.2.2])
def lTraded (cs : List Con) (room cost : Int) (b s off : List Int) : List Int :=
  lPairsGo cost (((lPB cs b off).zip (lPS cs s off)).take (mn3 (lPB cs b off).length (lPS cs s off).length room).toNat) []
def lChooseP (cs : List Con) (c : Pl) (off : List Int) : List Int := match c with
  | .table rows => chosenRow rows off
  | .caps b bg s sg => isort (lGreedy b bg off ++ lGreedy s sg off)
  | .trader room cost b s => isort (lTraded cs room cost b s off)
  | .sides br b sr s => isort (upTo (offer b off) br ++ upTo (offer s off) sr)
  | .maker room b s => isort (upTo (offer b off) (mn3 (offer b off).length (offer s off).length room) ++ upTo (offer s off) (mn3 (offer b off).length (offer s off).length room))
def lChoose (cs : List Con) (c : Ch) (off : List Int) : List Int := match c with
  | .pl p => lChooseP cs p off
  | .split ps => isort (ps.flatMap fun p => lChooseP cs p off)
/-- all subsets, in the order in which they are made -/
def subs (cs : List Int) : List (List Int) := cs.foldl (fun fo c => fo ++ fo.map fun r => r ++ [c]) [[]]
def rowLe (a b : List Int) : Bool := PySem.W.dataLe false (fun r : List Int => PyData.tuple [.int r.length, .tuple (r.map .int)]) a b
def lSubsets (cs : List Int) : List (List Int) := (subs cs).mergeSort rowLe
def lSidesOf : Pl → List Int × List Int
  | .maker _ b s => (b, s)
  | .sides _ b _ s => (b, s)
  | _ => ([], [])
def lPlace (q : List Int × List Int) (c : Int) : Int := if c ∈ q.2 then (q.2.idxOf c : Nat) else (q.1.idxOf c : Nat)
def lRowOf (c : Pl) (off : List Int) : Int × Int × List Int := (-(((lChooseP [] c off).length : Nat) : Int), ((lChooseP [] c off).map (lPlace (lSidesOf c))).sum, lChooseP [] c off)
def lRowStep (c : Pl) (rows : List (Int × Int × List Int)) (off : List Int) : List (Int × Int × List Int) :=
  if (decide (0 < (((lChooseP [] c off).length : Nat) : Int)) && !decide (lRowOf c off ∈ rows)) = true then rows ++ [lRowOf c off] else rows
def triLe (a b : Int × Int × List Int) : Bool := PySem.W.dataLe false (fun q : Int × Int × List Int => PyData.tuple [.int q.1, .int q.2.1, .tuple (q.2.2.map .int)]) a b
def lTable (c : Pl) : List (List Int) := (((lSubsets (isort ((lSidesOf c).1 ++ (lSidesOf c).2))).foldl (lRowStep c) []).mergeSort triLe).map fun q => q.2.2
def lMixStep (share : Int) (q : List Int × List Int) (c : Int) : List Int × List Int :=
  if (tk 8 q.1).1 < share then ((tk ((q.2.length : Int) + 1) (tk 8 q.1).2).2, q.2.take (tk ((q.2.length : Int) + 1) (tk 8 q.1).2).1.toNat ++ [c] ++ q.2.drop (tk ((q.2.length : Int) + 1) (tk 8 q.1).2).1.toNat)
  else ((tk 8 q.1).2, q.2)
/-- (draws, row) -/
def lMixed (ds cs : List Int) (share : Int) : List Int × List Int := cs.foldl (lMixStep share) (ds, [])
end N50
namespace N50
open PySem
def lPow (k : Int) : Int := 2 ^ k.toNat
def lBits (cs : List Int) : Int := (cs.map lPow).sum
def lSet (mask : Int) : List Int := (idxs 12).filter fun n => decide (Builtin.bitAnd (mask / lPow n) 1 = 1)
def lTakes (w : Web) (h : Int) (off : List Int) : List Int := lChoose w.cs (chOf w h) off
def lBuys (w : Web) (h : Int) : List Int := (idxs w.cs.length).filter fun c => decide (buyOf w c = h)
def lSells (w : Web) (h : Int) : List Int := (idxs w.cs.length).filter fun c => decide (selOf w c = h)
end N50
/-! text Ev0 -/
set_option maxHeartbeats 4000000
namespace N50
open PySem PySem.Spec PyProof.Rows L2

/-- plain data -/
inductive D where
  | non | bl (b : Bool) | int (i : Int) | str (x : Str) | tup (ds : List D) | lst (ds : List D)
  | dic (kvs : List (Int × Int)) | scr (ns : List Int) | tupN (ds : List D)

def dkOf (kvs : List (Int × Int)) : List (Key × V) := kvs.map fun p => (Sum.inl p.1, V.int p.2)
/-- the list written in K at a -/
def KL (K : PySem.W.Frag) (a : Addr) (xs : List V) : Prop :=
  ∃ (o : Obj) (its : Array Value) (n : Nat), K.lookup a = some o ∧ o.cls = .type "list" ∧ o.dict = none ∧ o.data = .seq its n ∧ its.size ≤ sizeLine ∧ Vals xs its.toList

/-! ### tables of code objects -/
/-- the name of the one lambda's code -/
def LQ : Str := "traded.<locals>.<lambda>"
def NT : HO → Bool | .tbl _ => false | _ => true
def NE : HO → Bool | .tbl _ => false | .ext _ => false | _ => true
def TabQ (H : Hp) (p : Addr) : Prop := LamX.TabS H p LQ
def Good (K : PySem.W.Frag) (H : Hp) : Prop := ∀ c p, PySem.W.tabIn K "traded" = some (c, p) → TabQ H p
theorem TabQ.ext {H H' : Hp} {p : Addr} (t : TabQ H p) (e : ∀ b o, H b = some o → H' b = some o) : TabQ H' p := LamX.TabS.ext t e
theorem TabQ.put {H : Hp} {p q : Addr} {u o : HO} (t : TabQ H p) (e : H q = some u) (n : NE u = true) : TabQ (upd H q o) p := by
  obtain ⟨ps, h1, h2, h3⟩ := t
  refine ⟨ps, ?_, h2, fun pos cv hc => ?_⟩
  · rw [upd_ne (fun z => by rw [z, e] at h1; cases h1; cases n)]; exact h1
  · obtain ⟨c, e1, e2⟩ := h3 pos cv hc
    refine ⟨c, e1, ?_⟩
    rw [upd_ne (fun z => by rw [z, e] at e2; cases e2; cases n)]; exact e2
/-- what may have changed: nothing (m = false), or owned objects; tables grow -/
structure Stp (m : Bool) (O : Addr → Prop) (H H' : Hp) : Prop where
  k : ∀ a o, (m = true → ¬ O a) → NT o = true → H a = some o → H' a = some o
  d : ∀ a, H a ≠ none → H' a ≠ none
  t : ∀ p, TabQ H p → TabQ H' p

section
variable (K : PySem.W.Frag) (M : Addr → Prop) (H : Hp)
mutual
inductive Den : D → V → Prop
  | non : Den .non .non
  | bl (b : Bool) : Den (.bl b) (.bl b)
  | int (i : Int) : Den (.int i) (.int i)
  | str (x : Str) : Den (.str x) (.str x)
  | tup {a : Addr} {vs : List V} {ds : List D} : ¬ M a → Rd H a (.tup vs) → ds.length ≤ sizeLine → DenL ds vs → Den (.tup ds) (.ref a)
  | tupN {a : Addr} {vs : List V} {ds : List D} : ¬ M a → (∃ o, H a = some (.frz o (.tup vs)) ∧ o.dict = none) → ds.length ≤ sizeLine → DenL ds vs → Den (.tupN ds) (.ref a)
  | lst {a : Addr} {vs : List V} {ds : List D} : ¬ M a → H a = some (.lst vs) → ds.length ≤ sizeLine → DenL ds vs → Den (.lst ds) (.ref a)
  | dic {a : Addr} {kvs : List (Int × Int)} : ¬ M a → H a = some (.dK (dkOf kvs)) → Den (.dic kvs) (.ref a)
  | scr {a : Addr} {ns : List Int} : ((¬ M a ∧ Rd H a (.lst (ns.map V.int))) ∨ KL K a (ns.map V.int)) → ns.length ≤ sizeLine → Den (.scr ns) (.ref a)
inductive DenL : List D → List V → Prop
  | nil : DenL [] []
  | cons {d : D} {v : V} {ds : List D} {vs : List V} : Den d v → DenL ds vs → DenL (d :: ds) (v :: vs)
end
end

section
variable {K : PySem.W.Frag} {M M' : Addr → Prop} {H H' : Hp}
mutual
theorem Den.to (hM : ∀ a, H a ≠ none → M' a → M a) (hH : ∀ a o, ¬ M a → NT o = true → H a = some o → H' a = some o) : ∀ {d : D} {v : V}, Den K M H d v → Den K M' H' d v
  | _, _, .non => .non
  | _, _, .bl b => .bl b
  | _, _, .int i => .int i
  | _, _, .str x => .str x
  | _, _, .tup n (.inl e) z l => .tup (fun h => n (hM _ (by rw [e]; exact fun q => nomatch q) h)) (.inl (hH _ _ n rfl e)) z (DenL.to hM hH l)
  | _, _, .tup n (.inr ⟨o, e⟩) z l => .tup (fun h => n (hM _ (by rw [e]; exact fun q => nomatch q) h)) (.inr ⟨o, hH _ _ n rfl e⟩) z (DenL.to hM hH l)
  | _, _, .tupN n ⟨o, e, hd⟩ z l => .tupN (fun h => n (hM _ (by rw [e]; exact fun q => nomatch q) h)) ⟨o, hH _ _ n rfl e, hd⟩ z (DenL.to hM hH l)
  | _, _, .lst n e z l => .lst (fun h => n (hM _ (by rw [e]; exact fun q => nomatch q) h)) (hH _ _ n rfl e) z (DenL.to hM hH l)
  | _, _, .dic n e => .dic (fun h => n (hM _ (by rw [e]; exact fun q => nomatch q) h)) (hH _ _ n rfl e)
  | _, _, .scr (.inl ⟨n, .inl e⟩) z => .scr (.inl ⟨fun h => n (hM _ (by rw [e]; exact fun q => nomatch q) h), .inl (hH _ _ n rfl e)⟩) z
  | _, _, .scr (.inl ⟨n, .inr ⟨o, e⟩⟩) z => .scr (.inl ⟨fun h => n (hM _ (by rw [e]; exact fun q => nomatch q) h), .inr ⟨o, hH _ _ n rfl e⟩⟩) z
  | _, _, .scr (.inr k) z => .scr (.inr k) z
theorem DenL.to (hM : ∀ a, H a ≠ none → M' a → M a) (hH : ∀ a o, ¬ M a → NT o = true → H a = some o → H' a = some o) : ∀ {ds : List D} {vs : List V}, DenL K M H ds vs → DenL K M' H' ds vs
  | _, _, .nil => .nil
  | _, _, .cons h t => .cons (Den.to hM hH h) (DenL.to hM hH t)
end
theorem DenL.length : ∀ {ds : List D} {vs : List V}, DenL K M H ds vs → ds.length = vs.length
  | _, _, .nil => rfl
  | _, _, .cons _ t => by rw [List.length_cons, List.length_cons, DenL.length t]
theorem DenL.get : ∀ {ds : List D} {vs : List V} {i : Nat} {d : D}, DenL K M H ds vs → ds[i]? = some d → ∃ v, vs[i]? = some v ∧ Den K M H d v
  | _, _, _, _, .nil, e => by simp at e
  | _, _, 0, d, .cons h _, e => ⟨_, rfl, by
    have : _ = d := Option.some.inj e
    rw [← this]; exact h⟩
  | _, _, i + 1, d, .cons _ t, e => by
    obtain ⟨v, h1, h2⟩ := DenL.get (i := i) (d := d) t (by simpa using e)
    exact ⟨v, by simpa using h1, h2⟩
theorem DenL.getV : ∀ {ds : List D} {vs : List V} {i : Nat} {v : V}, DenL K M H ds vs → vs[i]? = some v → ∃ d, ds[i]? = some d ∧ Den K M H d v
  | _, _, _, _, .nil, e => by simp at e
  | _, _, 0, v, .cons h _, e => ⟨_, rfl, by
    have : _ = v := Option.some.inj e
    rw [← this]; exact h⟩
  | _, _, i + 1, v, .cons _ t, e => by
    obtain ⟨d, h1, h2⟩ := DenL.getV (i := i) (v := v) t (by simpa using e)
    exact ⟨d, by simpa using h1, h2⟩
theorem DenL.append : ∀ {ds es : List D} {vs us : List V}, DenL K M H ds vs → DenL K M H es us → DenL K M H (ds ++ es) (vs ++ us)
  | _, _, _, _, .nil, s => s
  | _, _, _, _, .cons h t, s => .cons h (DenL.append t s)
theorem DenL.take : ∀ {ds : List D} {vs : List V} (n : Nat), DenL K M H ds vs → DenL K M H (ds.take n) (vs.take n)
  | _, _, 0, _ => by simp; exact .nil
  | _, _, _ + 1, .nil => .nil
  | _, _, n + 1, .cons h t => .cons h (DenL.take n t)
theorem DenL.drop : ∀ {ds : List D} {vs : List V} (n : Nat), DenL K M H ds vs → DenL K M H (ds.drop n) (vs.drop n)
  | _, _, 0, h => h
  | _, _, _ + 1, .nil => .nil
  | _, _, n + 1, .cons _ t => DenL.drop n t
theorem DenL.set {d : D} {v : V} (h : Den K M H d v) : ∀ {ds : List D} {vs : List V} (i : Nat), DenL K M H ds vs → DenL K M H (ds.set i d) (vs.set i v)
  | _, _, _, .nil => .nil
  | _, _, 0, .cons _ t => .cons h t
  | _, _, i + 1, .cons q t => .cons q (DenL.set h i t)
theorem DenL.rev : ∀ {ds : List D} {vs : List V}, DenL K M H ds vs → DenL K M H ds.reverse vs.reverse
  | _, _, .nil => .nil
  | _, _, .cons h t => by
    rw [List.reverse_cons, List.reverse_cons]
    exact DenL.append (DenL.rev t) (.cons h .nil)
theorem DenL.ints : ∀ {ns : List Int} {vs : List V}, DenL K M H (ns.map D.int) vs → vs = ns.map V.int
  | [], _, .nil => rfl
  | n :: ns, _, .cons h t => by
    cases h
    rw [List.map_cons, DenL.ints t]
theorem DenL.ofInts : ∀ (ns : List Int), DenL K M H (ns.map D.int) (ns.map V.int)
  | [] => .nil
  | n :: ns => .cons (.int n) (DenL.ofInts ns)
theorem DenL.bls : ∀ {ns : List Bool} {vs : List V}, DenL K M H (ns.map D.bl) vs → vs = ns.map V.bl
  | [], _, .nil => rfl
  | n :: ns, _, .cons h t => by
    cases h
    rw [List.map_cons, DenL.bls t]
end

/-- a slot: nothing known, data that stays, an object that the def alone holds (fr: made by this def) -/
inductive Sl where
  | no | val (d : D) | own (fr : Bool) (d : D)
abbrev En := List Sl
/-- an owned object -/
def OwnOk (K : PySem.W.Frag) (M : Addr → Prop) (H : Hp) (p : Addr) : D → Prop
  | .lst ds => ds.length ≤ sizeLine ∧ ∃ vs, H p = some (.lst vs) ∧ DenL K M H ds vs
  | .dic kvs => H p = some (.dK (dkOf kvs))
  | _ => False
theorem OwnOk.to {K : PySem.W.Frag} {M M' : Addr → Prop} {H H' : Hp} {p : Addr} {d : D} (h : OwnOk K M H p d) (hM : ∀ a, H a ≠ none → M' a → M a) (hH : ∀ a o, ¬ M a → NT o = true → H a = some o → H' a = some o) (hp : H' p = H p) : OwnOk K M' H' p d := by
  cases d with
  | lst ds => obtain ⟨z, vs, e, l⟩ := h; exact ⟨z, vs, hp.trans e, l.to hM hH⟩
  | dic kvs => exact hp.trans h
  | _ => exact h
theorem OwnOk.some {K : PySem.W.Frag} {M : Addr → Prop} {H : Hp} {p : Addr} {d : D} (h : OwnOk K M H p d) : ∃ o, H p = some o := by
  cases d with
  | lst ds => obtain ⟨z, vs, e, l⟩ := h; exact ⟨_, e⟩
  | dic kvs => exact ⟨_, h⟩
  | _ => exact h.elim
structure Base where
  H : Hp
  M : Addr → Prop
  O : Addr → Prop
structure Sim (K : PySem.W.Frag) (B : Base) (G : List (D × V)) (M O : Addr → Prop) (H : Hp) (σ : L2.St) (ρ : En) : Prop where
  len : σ.length = ρ.length
  ext : Stp true B.O B.H H
  gd : Good K H
  m0 : ∀ a, B.M a → M a
  om : ∀ a, O a → M a
  mn : ∀ a, M a → H a ≠ none
  on : ∀ a, O a → B.O a ∨ B.H a = none
  gh : ∀ x ∈ G, Den K M H x.1 x.2
  val : ∀ (i : Nat) (d : D), ρ[i]? = some (.val d) → ∃ v : V, σ[i]? = some (some v) ∧ Den K M H d v
  own : ∀ (i : Nat) (b : Bool) (d : D), ρ[i]? = some (.own b d) → ∃ p : Addr, σ[i]? = some (some (.ref p)) ∧ O p ∧ ((b = true → ¬ B.M p) ∧ (b = false → B.O p)) ∧ OwnOk K M H p d
  inj : ∀ (i j : Nat) (b c : Bool) (d e : D) (p : Addr), ρ[i]? = some (.own b d) → ρ[j]? = some (.own c e) → σ[i]? = some (some (.ref p)) → σ[j]? = some (some (.ref p)) → i = j
  bo : ∀ a, B.O a → B.M a
/-- a result: data that stays; a new object; something that may be looked at now -/
inductive RK where
  | v (d : D) | n (d : D) | b (d : D)
def RK.d : RK → D | .v d => d | .n d => d | .b d => d
def RK.st : RK → Bool | .b _ => false | _ => true
/-- as it is stored within data -/
def RK.slot : RK → Sl | .v d => .val d | .n d => .own true d | .b _ => .no
def ResOk (K : PySem.W.Frag) (M : Addr → Prop) (H H' : Hp) : RK → V → Prop
  | .v d, v => Den K M H' d v
  | .n d, v => ∃ p, v = .ref p ∧ H p = none ∧ OwnOk K (fun a => M a ∨ a = p) H' p d
  | .b d, v => Den K (fun _ => False) H' d v

section
variable {K : PySem.W.Frag} {B : Base} {G : List (D × V)} {M O : Addr → Prop} {H H' H1 H2 : Hp} {σ : L2.St} {ρ : En} {m m1 m2 : Bool} {r : RK} {v : V}
theorem Stp.ofAll (e : ∀ b o, H b = some o → H' b = some o) : Stp m O H H' := by
  refine ⟨fun a o _ _ h => e a o h, fun a h => ?_, fun p t => TabQ.ext t e⟩
  cases q : H a with
  | none => exact absurd q h
  | some o => rw [e a o q]; exact fun z => nomatch z
theorem Stp.refl : Stp m O H H := .ofAll fun _ _ h => h
theorem Stp.trans (h1 : Stp m1 O H H1) (h2 : Stp m2 O H1 H2) : Stp (m1 || m2) O H H2 := ⟨fun a o n nt e =>
  h2.k a o (fun z => n (by rw [z]; simp)) nt (h1.k a o (fun z => n (by rw [z]; simp)) nt e), fun a h => h2.d a (h1.d a h), fun p h => h2.t p (h1.t p h)⟩
theorem Stp.up (h : Stp m O H H') : Stp true O H H' := ⟨fun a o n nt e => h.k a o (fun _ => n rfl) nt e, h.d, h.t⟩
theorem Stp.of {O' : Addr → Prop} (h : Stp false O H H') : Stp m O' H H' := ⟨fun a o _ nt e => h.k a o (fun z => nomatch z) nt e, h.d, h.t⟩
theorem Stp.bhd {O0 : Addr → Prop} (h1 : Stp true O0 H H1) (h2 : Stp false O H1 H2) : Stp true O0 H H2 := ⟨fun a o n nt e => h2.k a o (fun z => nomatch z) nt (h1.k a o n nt e), fun a h => h2.d a (h1.d a h), fun p h => h2.t p (h1.t p h)⟩
theorem Stp.no {O0 : Addr → Prop} {m : Bool} (h : Stp m O0 H H1) {a : Addr} (e : H1 a = none) : H a = none := by
  cases q : H a with
  | none => rfl
  | some o => exact absurd e (h.d a (by rw [q]; exact fun z => nomatch z))
theorem Stp.new {p : Addr} {o : HO} (h : H p = none) : Stp m O H (upd H p o) := .ofAll fun a u e => by rw [upd_ne (ne_of_none e h)]; exact e
theorem Stp.one {q : Addr} {u o : HO} (hO : O q) (e : H q = some u) (n : NE u = true) : Stp true O H (upd H q o) := by
  refine ⟨fun a v nO _ ea => ?_, fun a h => ?_, fun p t => t.put e n⟩
  · rw [upd_ne (fun z => nO rfl (by rw [z]; exact hO))]; exact ea
  · by_cases z : a = q
    · rw [z, upd_same]; exact fun q => nomatch q
    · rw [upd_ne z]; exact h
theorem Stp.at {a : Addr} {o : HO} (s : Stp false O H H') (nt : NT o = true) (e : H a = some o) : H' a = some o := s.k a o (fun z => nomatch z) nt e
theorem Stp.rd {a : Addr} {o : HO} (s : Stp false O H H') (nt : NT o = true) (e : Rd H a o) : Rd H' a o := by
  rcases e with e | ⟨u, e⟩
  · exact .inl (s.at nt e)
  · exact .inr ⟨u, s.at rfl e⟩
theorem Stp.den (s : Stp false O H H') {N : Addr → Prop} {d : D} {v : V} (h : Den K N H d v) : Den K N H' d v := h.to (fun _ _ z => z) fun _ _ _ nt e => s.at nt e
theorem Stp.denL (s : Stp false O H H') {N : Addr → Prop} {d : List D} {v : List V} (h : DenL K N H d v) : DenL K N H' d v := h.to (fun _ _ z => z) fun _ _ _ nt e => s.at nt e
theorem Good.stp (g : Good K H) (s : Stp m O H H') : Good K H' := fun c p e => s.t p (g c p e)
theorem OwnOk.nt {p : Addr} {d : D} (h : OwnOk K M H p d) : ∃ o : HO, H p = Option.some o ∧ NT o = true ∧ NE o = true := by
  cases d with
  | lst ds => obtain ⟨z, vs, e, l⟩ := h; exact ⟨_, e, rfl, rfl⟩
  | dic kvs => exact ⟨_, h, rfl, rfl⟩
  | _ => exact h.elim
theorem Den.low {d : D} (h : Den K M H d v) : Den K (fun _ => False) H d v := h.to (fun _ _ z => z.elim) fun _ _ _ _ e => e
theorem DenL.low {ds : List D} {vs : List V} (h : DenL K M H ds vs) : DenL K (fun _ => False) H ds vs := h.to (fun _ _ z => z.elim) fun _ _ _ _ e => e
theorem OwnOk.low {p : Addr} {d : D} (h : OwnOk K M H p d) : OwnOk K (fun _ => False) H p d := h.to (fun _ _ z => z.elim) (fun _ _ _ _ e => e) rfl
theorem OwnOk.den {p : Addr} {d : D} (h : OwnOk K M H p d) (n : ¬ M p) : Den K M H d (.ref p) := by
  cases d with
  | lst ds => obtain ⟨z, vs, e, l⟩ := h; exact .lst n e z l
  | dic kvs => exact .dic n h
  | _ => exact h.elim
theorem ResOk.low (h : ResOk K M H H' r v) : Den K (fun _ => False) H' r.d v := by
  cases r with
  | v d => exact h.low
  | n d => obtain ⟨p, rfl, _, o⟩ := h; exact (OwnOk.low o).den id
  | b d => exact h
theorem ResOk.den (h : ResOk K M H H' r v) (hs : r.st = true) (mn : ∀ a, M a → H a ≠ none) : Den K M H' r.d v := by
  cases r with
  | v d => exact h
  | n d =>
    obtain ⟨p, rfl, n, o⟩ := h
    exact (o.to (M' := M) (fun a _ z => .inl z) (fun _ _ _ _ e => e) rfl).den fun z => mn p z n
  | b d => exact nomatch hs
theorem ResOk.stp (h : ResOk K M H H1 r v) (s0 : Stp m1 O H H1) (s : Stp m O H1 H2) (hs : (r.st || !m) = true) (om : ∀ a, O a → M a) (mn : ∀ a, M a → H a ≠ none) : ResOk K M H H2 r v := by
  cases r with
  | v d => exact h.to (fun _ _ z => z) fun a o n nt e => s.k a o (fun _ z => n (om a z)) nt e
  | n d =>
    obtain ⟨p, rfl, n, o⟩ := h
    obtain ⟨u, e, nt, _⟩ := o.nt
    have np : ¬ O p := fun z => mn p (om p z) n
    exact ⟨p, rfl, n, o.to (fun _ _ z => z) (fun a o' n nt e => s.k a o' (fun _ z => n (.inl (om a z))) nt e) ((s.k p u (fun _ => np) nt e).trans e.symm)⟩
  | b d =>
    have hm : m = false := by cases m <;> simp_all [RK.st]
    subst hm
    exact h.to (fun _ _ z => z) fun a o _ nt e => s.at nt e
theorem Sim.stp (S : Sim K B G M O H σ ρ) (s : Stp false O H H') : Sim K B G M O H' σ ρ where
  len := S.len
  ext := S.ext.bhd s
  gd := S.gd.stp s
  m0 := S.m0
  om := S.om
  mn := fun a h => s.d a (S.mn a h)
  on := S.on
  gh := fun x hx => (S.gh x hx).to (fun _ _ z => z) fun a o _ nt e => s.at nt e
  val := fun i d e => by
    obtain ⟨v, h1, h2⟩ := S.val i d e
    exact ⟨v, h1, h2.to (fun _ _ z => z) fun a o _ nt e => s.at nt e⟩
  own := fun i b d e => by
    obtain ⟨p, h1, h2, h3, h4⟩ := S.own i b d e
    obtain ⟨u, eu, nt, _⟩ := h4.nt
    exact ⟨p, h1, h2, h3, h4.to (fun _ _ z => z) (fun a o _ nt e => s.at nt e) ((s.at nt eu).trans eu.symm)⟩
  inj := S.inj
  bo := S.bo
theorem Sim.new (S : Sim K B G M O H σ ρ) {p : Addr} {o : HO} (h : H p = none) : Sim K B G M O (upd H p o) σ ρ := S.stp (Stp.new h)
end
end N50
/-! text Ev1 -/
set_option maxHeartbeats 4000000
namespace N50
open PySem PySem.Spec PyProof.Rows L2

/-! ### the weakest readings -/
def wE (X : Cx) (e : Expr) : TE := fun σ H Q => ∃ t, PE X e t ∧ t σ H Q
def wT (X : Cx) (e : Expr) : TT := fun σ H Q => ∃ t, PT X e t ∧ t σ H Q
def wW (X : Cx) (e : Expr) : TT := fun σ H Q => ∃ t, PW X e t ∧ t σ H Q
def wTs (X : Cx) (es : List Expr) : TT := fun σ H Q => ∃ t, PTs X es t ∧ t σ H Q
def wA (X : Cx) (es : List Expr) : TA := fun σ H Q => ∃ t, PA X es t ∧ t σ H Q
def wO (X : Cx) (e : Option Expr) : TO := fun σ H Q => ∃ t, PO X e t ∧ t σ H Q
def wI (X : Cx) (tg it : Expr) : TI := fun σ H R => ∃ t, PI X tg it t ∧ t σ H R
def wG (X : Cx) (tg : Expr) : TG := fun v σ H Q => ∃ t, PG X tg t ∧ t v σ H Q
def wSs (X : Cx) (ss : List Stmt) : TS := fun D σ H => ∃ t, PSs X ss t ∧ t D σ H
section
variable {X : Cx} {e tg it : Expr} {es : List Expr} {eo : Option Expr} {ss : List Stmt}
theorem pe_w : PE X e (wE X e) := ⟨fun p s σ H Q I ⟨_, h, q⟩ => h.run p s σ H Q I q⟩
theorem pt_w : PT X e (wT X e) := ⟨fun p s σ H Q I ⟨_, h, q⟩ => h.run p s σ H Q I q⟩
theorem pw_w : PW X e (wW X e) := ⟨fun wh p s σ H Q I ⟨_, h, q⟩ => h.run wh p s σ H Q I q⟩
theorem pts_w : PTs X es (wTs X es) := ⟨fun p s σ H Q I ⟨_, h, q⟩ => h.run p s σ H Q I q⟩
theorem pa_w : PA X es (wA X es) := ⟨fun ps p s σ H Q I ⟨_, h, q⟩ => h.run ps p s σ H Q I q⟩
theorem po_w : PO X eo (wO X eo) := ⟨fun p s σ H Q I ⟨_, h, q⟩ => h.run p s σ H Q I q⟩
theorem pi_w : PI X tg it (wI X tg it) := ⟨fun p s σ H Q I ⟨_, h, q⟩ => h.run p s σ H Q I q⟩
theorem pg_w : PG X tg (wG X tg) := ⟨fun p s σ H v u Q I r ⟨_, h, q⟩ => h.run p s σ H v u Q I r q⟩
theorem pss_w : PSs X ss (wSs X ss) := ⟨fun p s σ H D I ⟨_, h, q⟩ => h.run p s σ H D I q⟩
end

/-! ### judgements over plain data -/
def Ev (X : Cx) (e : Expr) (ρ : En) (r : RK) (m : Bool) (ρ' : En) : Prop :=
  ∀ (B : Base) (G : List (D × V)) (M O : Addr → Prop) (σ : L2.St) (H : Hp) (Q : VK), Sim X.K B G M O H σ ρ →
    (∀ v H', Stp m O H H' → Sim X.K B G M O H' σ ρ' → ResOk X.K M H H' r v → Q v H') → wE X e σ H Q
def EvT (X : Cx) (e : Expr) (ρ : En) (b : Bool) (m : Bool) (ρ' : En) : Prop :=
  ∀ (B : Base) (G : List (D × V)) (M O : Addr → Prop) (σ : L2.St) (H : Hp) (Q : Bool → Hp → Prop), Sim X.K B G M O H σ ρ →
    (∀ H', Stp m O H H' → Sim X.K B G M O H' σ ρ' → Q b H') → wT X e σ H Q
def EvW (X : Cx) (e : Expr) (ρ : En) (b : Bool) (m : Bool) (ρ' : En) : Prop :=
  ∀ (B : Base) (G : List (D × V)) (M O : Addr → Prop) (σ : L2.St) (H : Hp) (Q : Bool → Hp → Prop), Sim X.K B G M O H σ ρ →
    (∀ H', Stp m O H H' → Sim X.K B G M O H' σ ρ' → Q b H') → wW X e σ H Q
/-- arguments: strong ones keep, weak ones may be looked at -/
def ArgOk (K : PySem.W.Frag) (M : Addr → Prop) (H : Hp) : RK → V → Prop
  | .v d, v => Den K M H d v
  | .n d, v => Den K M H d v
  | .b d, v => Den K (fun _ => False) H d v
def ArgsOk (K : PySem.W.Frag) (M : Addr → Prop) (H : Hp) : List RK → List V → Prop := Paired (ArgOk K M H)
def EvA (X : Cx) (es : List Expr) (ρ : En) (rs : List RK) (m : Bool) (ρ' : En) : Prop :=
  ∀ (B : Base) (G : List (D × V)) (M O : Addr → Prop) (σ : L2.St) (H : Hp) (Q : List V → Hp → Prop), Sim X.K B G M O H σ ρ →
    (∀ vs H', Stp m O H H' → Sim X.K B G M O H' σ ρ' → ArgsOk X.K M H' rs vs → Q vs H') → wA X es σ H Q
def EvO (X : Cx) (e : Option Expr) (ρ : En) (o : Option Int) (m : Bool) (ρ' : En) : Prop :=
  ∀ (B : Base) (G : List (D × V)) (M O : Addr → Prop) (σ : L2.St) (H : Hp) (Q : Option Int → Hp → Prop), Sim X.K B G M O H σ ρ →
    (∀ H', Stp m O H H' → Sim X.K B G M O H' σ ρ' → Q o H') → wO X e σ H Q

section
variable {X : Cx} {a b c : Expr} {ρ ρ1 ρ2 ρ3 : En} {m m1 m2 : Bool} {pos : Pos}

/-! ### names, constants -/
theorem ev_n (i : Nat) {x : Str} {d : D} (hr : ρ[i]? = some (.val d)) (hN : X.N[i]? = some x := by rfl) (hv : Vis X.env.scope x := by first | exact Or.inl rfl | exact Or.inr (Or.inl rfl) | exact Or.inr (Or.inr rfl)) (hd : (x == ("__debug__" : Str)) = false := by decide) (hcd : (x == ("__classdict__" : Str)) = false := by decide) :
    Ev X (.Name x pos) ρ (.v d) false ρ := fun B G M O σ H Q S k => by
  obtain ⟨v, e, h⟩ := S.val i d hr
  exact ⟨_, pe_var hN hv hd hcd, v, e, k v H Stp.refl S h⟩
/-- an owned object, looked at -/
theorem ev_o (i : Nat) {x : Str} {f : Bool} {d : D} (hr : ρ[i]? = some (.own f d)) (hN : X.N[i]? = some x := by rfl) (hv : Vis X.env.scope x := by first | exact Or.inl rfl | exact Or.inr (Or.inl rfl) | exact Or.inr (Or.inr rfl)) (hd : (x == ("__debug__" : Str)) = false := by decide) (hcd : (x == ("__classdict__" : Str)) = false := by decide) :
    Ev X (.Name x pos) ρ (.b d) false ρ := fun B G M O σ H Q S k => by
  obtain ⟨p, e, h1, h2, h3⟩ := S.own i f d hr
  exact ⟨_, pe_var hN hv hd hcd, .ref p, e, k _ H Stp.refl S (h3.low.den id)⟩
theorem ev_i {i : Int} {j : Nat} : Ev X (.Constant (.int i) j pos) ρ (.v (.int i)) false ρ := fun B G M O σ H Q S k => ⟨_, pe_int, k _ H Stp.refl S (.int i)⟩
theorem ev_bl {i : Bool} {j : Nat} : Ev X (.Constant (.bool i) j pos) ρ (.v (.bl i)) false ρ := fun B G M O σ H Q S k => ⟨_, pe_bl, k _ H Stp.refl S (.bl i)⟩
theorem ev_non {j : Nat} : Ev X (.Constant .none j pos) ρ (.v .non) false ρ := fun B G M O σ H Q S k => ⟨_, pe_non, k _ H Stp.refl S .non⟩
theorem ev_s {x : Str} {j : Nat} : Ev X (.Constant (.str x) j pos) ρ (.v (.str x)) false ρ := fun B G M O σ H Q S k => ⟨_, pe_str, k _ H Stp.refl S (.str x)⟩

/-- another name for the result -/
theorem Ev.as {r r' : RK} (h : Ev X a ρ r m ρ1) (e : r = r') : Ev X a ρ r' m ρ1 := e ▸ h
/-- a new object as data -/
theorem Ev.v {d : D} (h : Ev X a ρ (.n d) m ρ1) : Ev X a ρ (.v d) m ρ1 := fun B G M O σ H Q S k =>
  h B G M O σ H Q S fun v H' s S' r => k v H' s S' (r.den rfl S.mn)
theorem Ev.weak {r : RK} (h : Ev X a ρ r m ρ1) : Ev X a ρ (.b r.d) m ρ1 := fun B G M O σ H Q S k =>
  h B G M O σ H Q S fun v H' s S' r => k v H' s S' r.low

theorem den_int {K : PySem.W.Frag} {M : Addr → Prop} {H : Hp} {i : Int} {v : V} (h : Den K M H (.int i) v) : v = .int i := by cases h; rfl
theorem den_bl {K : PySem.W.Frag} {M : Addr → Prop} {H : Hp} {i : Bool} {v : V} (h : Den K M H (.bl i) v) : v = .bl i := by cases h; rfl
theorem den_str {K : PySem.W.Frag} {M : Addr → Prop} {H : Hp} {i : Str} {v : V} (h : Den K M H (.str i) v) : v = .str i := by cases h; rfl
theorem den_non {K : PySem.W.Frag} {M : Addr → Prop} {H : Hp} {v : V} (h : Den K M H .non v) : v = .non := by cases h; rfl

/-! ### two operands -/
/-- the two operands' values at the end -/
theorem two {ra rb : RK} (ha : Ev X a ρ ra m1 ρ1) (hb : Ev X b ρ1 rb m2 ρ2) (st : (ra.st || !m2) = true) {B : Base} {G : List (D × V)} {M O : Addr → Prop} {σ : L2.St} {H : Hp} {R : V → V → Hp → Prop} (S : Sim X.K B G M O H σ ρ)
    (k : ∀ x y H2, Stp (m1 || m2) O H H2 → Sim X.K B G M O H2 σ ρ2 → ResOk X.K M H H2 ra x → Den X.K (fun _ => False) H2 rb.d y → R x y H2) : wE X a σ H fun x H1 => wE X b σ H1 fun y H2 => R x y H2 :=
  ha B G M O σ H _ S fun x H1 s1 S1 r1 => hb B G M O σ H1 _ S1 fun y H2 s2 S2 r2 => k x y H2 (s1.trans s2) S2 (r1.stp s1 s2 st S.om S.mn) r2.low
/-- an operator of ints: the answer by a function -/
theorem ev_opI {op : Operator} {C : Int → Int → Prop} {g : Int → Int → Int} (ho : OpR X (binaryOp op) (rI C fun i j => .int (g i j))) {ra rb : RK} {i j : Int} (ha : Ev X a ρ ra m1 ρ1) (hb : Ev X b ρ1 rb m2 ρ2) (ea : ra.d = .int i) (eb : rb.d = .int j) (hc : C i j) (st : (ra.st || !m2) = true := by rfl) : Ev X (.BinOp a op b pos) ρ (.v (.int (g i j))) (m1 || m2) ρ2 := fun B G M O σ H Q S k =>
  ⟨_, pe_op ho pe_w pe_w, two ha hb st S fun x y H2 s S2 r1 r2 => ⟨i, j, den_int (ea ▸ r1.low), den_int (eb ▸ r2), hc, k _ H2 s S2 (.int _)⟩⟩
theorem ev_opI0 {op : Operator} {g : Int → Int → Int} (ho : OpR X (binaryOp op) (rI0 fun i j => .int (g i j))) {ra rb : RK} {i j : Int} (ha : Ev X a ρ ra m1 ρ1) (hb : Ev X b ρ1 rb m2 ρ2) (ea : ra.d = .int i) (eb : rb.d = .int j) (st : (ra.st || !m2) = true := by rfl) : Ev X (.BinOp a op b pos) ρ (.v (.int (g i j))) (m1 || m2) ρ2 := fun B G M O σ H Q S k =>
  ⟨_, pe_op ho pe_w pe_w, two ha hb st S fun x y H2 s S2 r1 r2 => ⟨i, j, den_int (ea ▸ r1.low), den_int (eb ▸ r2), k _ H2 s S2 (.int _)⟩⟩
theorem ev_add {ra rb : RK} {i j : Int} (ha : Ev X a ρ ra m1 ρ1) (hb : Ev X b ρ1 rb m2 ρ2) (ea : ra.d = .int i) (eb : rb.d = .int j) (st : (ra.st || !m2) = true := by rfl) : Ev X (.BinOp a .Add b pos) ρ (.v (.int (i + j))) (m1 || m2) ρ2 := ev_opI0 op_add ha hb ea eb st
theorem ev_sub {ra rb : RK} {i j : Int} (ha : Ev X a ρ ra m1 ρ1) (hb : Ev X b ρ1 rb m2 ρ2) (ea : ra.d = .int i) (eb : rb.d = .int j) (st : (ra.st || !m2) = true := by rfl) : Ev X (.BinOp a .Sub b pos) ρ (.v (.int (i - j))) (m1 || m2) ρ2 := ev_opI0 op_sub ha hb ea eb st
theorem ev_mul {ra rb : RK} {i j : Int} (ha : Ev X a ρ ra m1 ρ1) (hb : Ev X b ρ1 rb m2 ρ2) (ea : ra.d = .int i) (eb : rb.d = .int j) (hc : CMul i j) (st : (ra.st || !m2) = true := by rfl) : Ev X (.BinOp a .Mult b pos) ρ (.v (.int (i * j))) (m1 || m2) ρ2 := ev_opI op_mul ha hb ea eb hc st
theorem ev_mod {ra rb : RK} {i j : Int} (ha : Ev X a ρ ra m1 ρ1) (hb : Ev X b ρ1 rb m2 ρ2) (ea : ra.d = .int i) (eb : rb.d = .int j) (hc : 0 < j) (st : (ra.st || !m2) = true := by rfl) : Ev X (.BinOp a .Mod b pos) ρ (.v (.int (i % j))) (m1 || m2) ρ2 := ev_opI op_mod ha hb ea eb hc st
theorem ev_fdiv {ra rb : RK} {i j : Int} (ha : Ev X a ρ ra m1 ρ1) (hb : Ev X b ρ1 rb m2 ρ2) (ea : ra.d = .int i) (eb : rb.d = .int j) (hc : CDiv i j) (st : (ra.st || !m2) = true := by rfl) : Ev X (.BinOp a .FloorDiv b pos) ρ (.v (.int (i / j))) (m1 || m2) ρ2 := ev_opI op_fdiv ha hb ea eb hc st
theorem ev_pow {ra rb : RK} {i j : Int} (ha : Ev X a ρ ra m1 ρ1) (hb : Ev X b ρ1 rb m2 ρ2) (ea : ra.d = .int i) (eb : rb.d = .int j) (hc : CPow i j) (st : (ra.st || !m2) = true := by rfl) : Ev X (.BinOp a .Pow b pos) ρ (.v (.int (i ^ j.toNat))) (m1 || m2) ρ2 := ev_opI op_pow ha hb ea eb hc st
theorem ev_and2 {ra rb : RK} {i j : Int} (ha : Ev X a ρ ra m1 ρ1) (hb : Ev X b ρ1 rb m2 ρ2) (ea : ra.d = .int i) (eb : rb.d = .int j) (st : (ra.st || !m2) = true := by rfl) : Ev X (.BinOp a .BitAnd b pos) ρ (.v (.int (Builtin.bitAnd i j))) (m1 || m2) ρ2 := ev_opI0 op_and ha hb ea eb st
theorem ev_or2 {ra rb : RK} {i j : Int} (ha : Ev X a ρ ra m1 ρ1) (hb : Ev X b ρ1 rb m2 ρ2) (ea : ra.d = .int i) (eb : rb.d = .int j) (st : (ra.st || !m2) = true := by rfl) : Ev X (.BinOp a .BitOr b pos) ρ (.v (.int (Builtin.bitOr i j))) (m1 || m2) ρ2 := ev_opI0 op_or ha hb ea eb st
theorem ev_neg {ra : RK} {i : Int} (ha : Ev X a ρ ra m ρ1) (ea : ra.d = .int i) : Ev X (.UnaryOp .USub a pos) ρ (.v (.int (-i))) m ρ1 := fun B G M O σ H Q S k =>
  ⟨_, pe_un un_neg pe_w, ha B G M O σ H _ S fun x H1 s S1 r => ⟨i, den_int (ea ▸ r.low), k _ H1 s S1 (.int _)⟩⟩
/-- texts -/
theorem ev_cats {ra rb : RK} {x y : Str} (ha : Ev X a ρ ra m1 ρ1) (hb : Ev X b ρ1 rb m2 ρ2) (ea : ra.d = .str x) (eb : rb.d = .str y) (hc : x.length + y.length ≤ sizeLine) (st : (ra.st || !m2) = true := by rfl) : Ev X (.BinOp a .Add b pos) ρ (.v (.str (x ++ y))) (m1 || m2) ρ2 := fun B G M O σ H Q S k =>
  ⟨_, pe_op op_add_str pe_w pe_w, two ha hb st S fun _ _ H2 s S2 r1 r2 => ⟨x, y, den_str (ea ▸ r1.low), den_str (eb ▸ r2), hc, k _ H2 s S2 (.str _)⟩⟩

/-! ### comparisons: as values, as tests -/
def wC (X : Cx) (op : CmpOp) (a b : Expr) : TE := fun σ H Q => ∃ t, PC X op a b t ∧ t σ H Q
theorem pc_w {op : CmpOp} : PC X op a b (wC X op a b) := ⟨fun p s σ H Q I ⟨_, h, q⟩ => h.run p s σ H Q I q⟩
theorem pc_R {op : CmpOp} {r : R2} (ho : OpR X (compareOp op) r) : PC X op a b (tOp r (wE X a) (wE X b)) := ⟨fun pins s σ H Q I h => binT pe_w pe_w I h fun v u s2 x y H2 I2 rx ry q => ho pins s2 σ H2 x y v u Q I2 rx ry q⟩
def EvC (X : Cx) (op : CmpOp) (a b : Expr) (ρ : En) (c : Bool) (m : Bool) (ρ' : En) : Prop :=
  ∀ (B : Base) (G : List (D × V)) (M O : Addr → Prop) (σ : L2.St) (H : Hp) (Q : VK), Sim X.K B G M O H σ ρ →
    (∀ H', Stp m O H H' → Sim X.K B G M O H' σ ρ' → Q (.bl c) H') → wC X op a b σ H Q
theorem ev_c {op : CmpOp} {c : Bool} (h : EvC X op a b ρ c m ρ1) (h1 : behindInMarks op b = false := by first | exact nobehind _ (by decide) (by decide) | rfl) : Ev X (.Compare a [op] [b] pos) ρ (.v (.bl c)) m ρ1 := fun B G M O σ H Q S k =>
  ⟨_, pe_cmp pc_w h1, h B G M O σ H Q S fun H' s S' => k _ H' s S' (.bl c)⟩
theorem et_c {op : CmpOp} {c : Bool} (h : EvC X op a b ρ c m ρ1) (h1 : behindInMarks op b = false := by first | exact nobehind _ (by decide) (by decide) | rfl) : EvT X (.Compare a [op] [b] pos) ρ c m ρ1 := fun B G M O σ H Q S k =>
  ⟨_, pt_cmp pc_w h1, h B G M O σ H _ S fun H' s S' => ⟨c, rfl, k H' s S'⟩⟩
theorem EvC.is {op : CmpOp} {c c' : Bool} (h : EvC X op a b ρ c m ρ1) (e : c = c') : EvC X op a b ρ c' m ρ1 := e ▸ h
/-- the comparison of ints, by its rule -/
theorem ec_I {op : CmpOp} {g : Int → Int → Bool} (ho : OpR X (compareOp op) (rI0 fun i j => .bl (g i j))) {ra rb : RK} {i j : Int} (ha : Ev X a ρ ra m1 ρ1) (hb : Ev X b ρ1 rb m2 ρ2) (ea : ra.d = .int i) (eb : rb.d = .int j) (st : (ra.st || !m2) = true := by rfl) : EvC X op a b ρ (g i j) (m1 || m2) ρ2 := fun B G M O σ H Q S k =>
  ⟨_, pc_R ho, two ha hb st S fun x y H2 s S2 r1 r2 => ⟨i, j, den_int (ea ▸ r1.low), den_int (eb ▸ r2), k H2 s S2⟩⟩
theorem ec_lt {ra rb : RK} {i j : Int} (ha : Ev X a ρ ra m1 ρ1) (hb : Ev X b ρ1 rb m2 ρ2) (ea : ra.d = .int i) (eb : rb.d = .int j) (st : (ra.st || !m2) = true := by rfl) : EvC X .Lt a b ρ (decide (i < j)) (m1 || m2) ρ2 := ec_I op_lt ha hb ea eb st
theorem ec_le {ra rb : RK} {i j : Int} (ha : Ev X a ρ ra m1 ρ1) (hb : Ev X b ρ1 rb m2 ρ2) (ea : ra.d = .int i) (eb : rb.d = .int j) (st : (ra.st || !m2) = true := by rfl) : EvC X .LtE a b ρ (decide (i ≤ j)) (m1 || m2) ρ2 := ec_I op_le ha hb ea eb st
theorem ec_gt {ra rb : RK} {i j : Int} (ha : Ev X a ρ ra m1 ρ1) (hb : Ev X b ρ1 rb m2 ρ2) (ea : ra.d = .int i) (eb : rb.d = .int j) (st : (ra.st || !m2) = true := by rfl) : EvC X .Gt a b ρ (decide (j < i)) (m1 || m2) ρ2 := ec_I op_gt ha hb ea eb st
theorem ec_ge {ra rb : RK} {i j : Int} (ha : Ev X a ρ ra m1 ρ1) (hb : Ev X b ρ1 rb m2 ρ2) (ea : ra.d = .int i) (eb : rb.d = .int j) (st : (ra.st || !m2) = true := by rfl) : EvC X .GtE a b ρ (decide (j ≤ i)) (m1 || m2) ρ2 := ec_I op_ge ha hb ea eb st
/-- == of scalars -/
inductive ScD : D → D → Bool → Prop where
  | int (i j : Int) : ScD (.int i) (.int j) (decide (i = j))
  | bl (i j : Bool) : ScD (.bl i) (.bl j) (decide (i = j))
  | str (i j : Str) : ScD (.str i) (.str j) (decide (i = j))
theorem scD {K : PySem.W.Frag} {M N : Addr → Prop} {H : Hp} {d e : D} {c : Bool} {x y : V} (h : ScD d e c) (hx : Den K M H d x) (hy : Den K N H e y) : scal x y = true ∧ decide (x = y) = c := by
  cases h with
  | int i j => cases hx; cases hy; exact ⟨rfl, by rw [dec_int, Bool.beq_eq_decide_eq]⟩
  | bl i j => cases hx; cases hy; exact ⟨rfl, by rw [dec_bl, Bool.beq_eq_decide_eq]⟩
  | str i j => cases hx; cases hy; exact ⟨rfl, by rw [dec_str, Bool.beq_eq_decide_eq]⟩
theorem ec_eq {ra rb : RK} {c : Bool} (ha : Ev X a ρ ra m1 ρ1) (hb : Ev X b ρ1 rb m2 ρ2) (hc : ScD ra.d rb.d c) (st : (ra.st || !m2) = true := by rfl) : EvC X .Eq a b ρ c (m1 || m2) ρ2 := fun B G M O σ H Q S k =>
  ⟨_, pc_R op_eq, two ha hb st S fun x y H2 s S2 r1 r2 => by
    obtain ⟨h1, h2⟩ := scD hc r1.low r2
    refine ⟨h1, ?_⟩
    rw [h2]; exact k H2 s S2⟩
theorem ec_ne {ra rb : RK} {c : Bool} (ha : Ev X a ρ ra m1 ρ1) (hb : Ev X b ρ1 rb m2 ρ2) (hc : ScD ra.d rb.d c) (st : (ra.st || !m2) = true := by rfl) : EvC X .NotEq a b ρ (!c) (m1 || m2) ρ2 := fun B G M O σ H Q S k =>
  ⟨_, pc_R op_ne, two ha hb st S fun x y H2 s S2 r1 r2 => by
    obtain ⟨h1, h2⟩ := scD hc r1.low r2
    refine ⟨h1, ?_⟩
    rw [h2]; exact k H2 s S2⟩
/-- is None -/
def D.isN : D → Bool | .non => true | _ => false
theorem den_isN {K : PySem.W.Frag} {M : Addr → Prop} {H : Hp} {d : D} {v : V} (h : Den K M H d v) : decide (v = .non) = d.isN := by
  cases h <;> first | rfl | (apply decide_eq_false; exact fun q => nomatch q)
theorem ec_isN {ra : RK} {j : Nat} {pos' : Pos} (ha : Ev X a ρ ra m ρ1) : EvC X .Is a (.Constant .none j pos') ρ ra.d.isN m ρ1 := fun B G M O σ H Q S k =>
  ⟨_, pc_isN pe_w, ha B G M O σ H _ S fun x H1 s S1 r => by rw [den_isN r.low]; exact k H1 s S1⟩
theorem ec_notN {ra : RK} {j : Nat} {pos' : Pos} (ha : Ev X a ρ ra m ρ1) : EvC X .IsNot a (.Constant .none j pos') ρ (!ra.d.isN) m ρ1 := fun B G M O σ H Q S k =>
  ⟨_, pc_notN pe_w, ha B G M O σ H _ S fun x H1 s S1 r => by rw [den_isN r.low]; exact k H1 s S1⟩

/-! ### tests -/
theorem et_v {r : RK} {c : Bool} (h : Ev X a ρ r m ρ1) (e : r.d = .bl c) (he : ∀ whole, isTrue a X.env whole = (do let v ← whole; standAt a.pos; holding [v] (truthy v)) := by intro _; rfl) : EvT X a ρ c m ρ1 := fun B G M O σ H Q S k =>
  ⟨_, pt_val pe_w he, h B G M O σ H _ S fun v H' s S' q => ⟨c, den_bl (e ▸ q.low), k H' s S'⟩⟩
theorem EvT.is {c c' : Bool} (h : EvT X a ρ c m ρ1) (e : c = c') : EvT X a ρ c' m ρ1 := e ▸ h
theorem et_not {c : Bool} (h : EvT X a ρ c m ρ1) : EvT X (.UnaryOp .Not a pos) ρ (!c) m ρ1 := fun B G M O σ H Q S k => ⟨_, pt_not pt_w, h B G M O σ H _ S fun H' s S' => k H' s S'⟩
theorem et_w {c : Bool} (h : EvW X a ρ c m ρ1) : EvT X a ρ c m ρ1 := fun B G M O σ H Q S k => ⟨_, pw_w.pt, h B G M O σ H Q S k⟩
theorem ew_and1 {c : Bool} (h : EvT X a ρ c m ρ1) : EvW X (.BoolOp .And [a] pos) ρ c m ρ1 := fun B G M O σ H Q S k => ⟨_, pw_and1 pt_w, h B G M O σ H Q S k⟩
theorem ew_or1 {c : Bool} (h : EvT X a ρ c m ρ1) : EvW X (.BoolOp .Or [a] pos) ρ c m ρ1 := fun B G M O σ H Q S k => ⟨_, pw_or1 pt_w, h B G M O σ H Q S k⟩
/-- and, or of tests that change nothing -/
theorem ew_and {c d : Bool} {rest : List Expr} (h1 : EvT X a ρ c false ρ) (h2 : c = true → EvW X (.BoolOp .And (b :: rest) pos) ρ d false ρ) : EvW X (.BoolOp .And (a :: b :: rest) pos) ρ (c && d) false ρ := fun B G M O σ H Q S k =>
  ⟨_, pw_and pt_w pw_w, h1 B G M O σ H _ S fun H' s S' => by
    cases c with
    | true =>
      show wW X _ σ H' Q
      exact h2 rfl B G M O σ H' Q S' fun H2 s2 S2 => k H2 (s.trans s2) S2
    | false => exact k H' s S'⟩
theorem ew_or {c d : Bool} {rest : List Expr} (h1 : EvT X a ρ c false ρ) (h2 : c = false → EvW X (.BoolOp .Or (b :: rest) pos) ρ d false ρ) : EvW X (.BoolOp .Or (a :: b :: rest) pos) ρ (c || d) false ρ := fun B G M O σ H Q S k =>
  ⟨_, pw_or pt_w pw_w, h1 B G M O σ H _ S fun H' s S' => by
    cases c with
    | false =>
      show wW X _ σ H' Q
      exact h2 rfl B G M O σ H' Q S' fun H2 s2 S2 => k H2 (s.trans s2) S2
    | true => exact k H' s S'⟩
/-- and, or, not as values -/
theorem ev_and1 {r : RK} {op : BoolOp} (h : Ev X a ρ r m ρ1) : Ev X (.BoolOp op [a] pos) ρ r m ρ1 := fun B G M O σ H Q S k => ⟨_, pe_one pe_w, h B G M O σ H Q S k⟩
theorem ev_and {c d : Bool} {rest : List Expr} {ra rb : RK} (h1 : Ev X a ρ ra false ρ) (e1 : ra.d = .bl c) (h2 : c = true → Ev X (.BoolOp .And (b :: rest) pos) ρ rb false ρ) (e2 : c = true → rb.d = .bl d) : Ev X (.BoolOp .And (a :: b :: rest) pos) ρ (.v (.bl (c && d))) false ρ := fun B G M O σ H Q S k =>
  ⟨_, pe_and pe_w pe_w, h1 B G M O σ H _ S fun v H' s S' r => ⟨c, den_bl (e1 ▸ r.low), by
    cases c with
    | true =>
      show wE X _ σ H' Q
      refine h2 rfl B G M O σ H' Q S' fun v2 H2 s2 S2 r2 => k v2 H2 (s.trans s2) S2 ?_
      have q := r2.low
      rw [e2 rfl] at q
      have e3 := den_bl q
      subst e3
      exact .bl _
    | false => exact k _ H' s S' (.bl _)⟩⟩
theorem ev_or {c d : Bool} {rest : List Expr} {ra rb : RK} (h1 : Ev X a ρ ra false ρ) (e1 : ra.d = .bl c) (h2 : c = false → Ev X (.BoolOp .Or (b :: rest) pos) ρ rb false ρ) (e2 : c = false → rb.d = .bl d) : Ev X (.BoolOp .Or (a :: b :: rest) pos) ρ (.v (.bl (c || d))) false ρ := fun B G M O σ H Q S k =>
  ⟨_, pe_or pe_w pe_w, h1 B G M O σ H _ S fun v H' s S' r => ⟨c, den_bl (e1 ▸ r.low), by
    cases c with
    | false =>
      show wE X _ σ H' Q
      refine h2 rfl B G M O σ H' Q S' fun v2 H2 s2 S2 r2 => k v2 H2 (s.trans s2) S2 ?_
      have q := r2.low
      rw [e2 rfl] at q
      have e3 := den_bl q
      subst e3
      exact .bl _
    | true => exact k _ H' s S' (.bl _)⟩⟩
theorem ev_not {c : Bool} {r : RK} (h : Ev X a ρ r m ρ1) (e : r.d = .bl c) : Ev X (.UnaryOp .Not a pos) ρ (.v (.bl (!c))) m ρ1 := fun B G M O σ H Q S k =>
  ⟨_, pe_not pe_w, h B G M O σ H _ S fun v H' s S' q => ⟨c, den_bl (e ▸ q.low), k _ H' s S' (.bl _)⟩⟩

/-! ### lists and tuples: items -/
/-- the items of a list or tuple -/
def D.its : D → List D | .lst ds => ds | .tup ds => ds | .scr ns => ns.map .int | _ => []
def D.seq : D → Bool | .lst _ => true | .tup _ => true | .scr _ => true | _ => false
theorem den_seq {K : PySem.W.Frag} {M : Addr → Prop} {H : Hp} {d : D} {v : V} (h : Den K M H d v) (hs : d.seq = true) : ∃ p vs, v = .ref p ∧ (SqL K H p vs ∨ SqT K H p vs) ∧ DenL K M H d.its vs := by
  cases h with
  | tup n e z l => exact ⟨_, _, rfl, .inr (.inl e), l⟩
  | lst n e z l => exact ⟨_, _, rfl, .inl (.inl (.inl e)), l⟩
  | scr q zq =>
    refine ⟨_, _, rfl, .inl ?_, DenL.ofInts _⟩
    rcases q with ⟨_, q⟩ | q
    · exact .inl q
    · exact .inr q
  | _ => exact nomatch hs
theorem den_sz {K : PySem.W.Frag} {M : Addr → Prop} {H : Hp} {d : D} {v : V} (h : Den K M H d v) (hs : d.seq = true) : d.its.length ≤ sizeLine := by
  cases h with
  | tup n e z l => exact z
  | lst n e z l => exact z
  | scr q z => show (List.map _ _).length ≤ _; rw [List.length_map]; exact z
  | _ => exact nomatch hs
theorem atI_len {α β : Type} {xs : List α} {ys : List β} (h : xs.length = ys.length) (i : Int) : (∀ x, atI xs i = some x → ∃ y, atI ys i = some y) := fun x e => by
  obtain ⟨j, h1, h2, h3, h4, h5⟩ := atI_get e
  unfold atI at e ⊢
  cases q : ixN xs.length i with
  | none => rw [q] at e; cases e
  | some j' =>
    rw [q] at e
    rw [← h, q]
    have hj : j' < ys.length := by
      have := (ixN_seq q).2.1
      omega
    exact ⟨ys[j'], by simp [hj]⟩
theorem den_at {K : PySem.W.Frag} {M : Addr → Prop} {H : Hp} {ds : List D} {vs : List V} {i : Int} {d : D} (h : DenL K M H ds vs) (e : atI ds i = some d) : ∃ v, atI vs i = some v ∧ Den K M H d v := by
  unfold atI at e ⊢
  rw [← h.length]
  cases q : ixN ds.length i with
  | none => rw [q] at e; cases e
  | some j => rw [q] at e; exact h.get e
/-- what is read out of it is as strong as it -/
def RK.of (r : RK) (d : D) : RK := if r.st then .v d else .b d
theorem ResOk.of {K : PySem.W.Frag} {M : Addr → Prop} {H H' : Hp} {r : RK} {v : V} (h : ResOk K M H H' r v) (mn : ∀ a, M a → H a ≠ none) :
    ∃ N : Addr → Prop, (∀ a, N a → M a) ∧ Den K N H' r.d v ∧ ∀ (H2 : Hp) (d : D) (x : V), Den K N H2 d x → ResOk K M H H2 (r.of d) x := by
  unfold RK.of
  cases hs : r.st with
  | true => exact ⟨M, fun _ z => z, h.den hs mn, fun _ d x q => q⟩
  | false => exact ⟨fun _ => False, fun _ z => z.elim, h.low, fun _ d x q => q⟩
theorem ev_ix {ra rb : RK} {i : Int} {d : D} (ha : Ev X a ρ ra m1 ρ1) (hb : Ev X b ρ1 rb m2 ρ2) (eb : rb.d = .int i) (ed : atI ra.d.its i = some d) (hs : ra.d.seq = true := by rfl) (st : (ra.st || !m2) = true := by rfl) (hp : PlainIx b := by exact fun _ _ => rfl) :
    Ev X (.Subscript a b pos) ρ (ra.of d) (m1 || m2) ρ2 := fun B G M O σ H Q S k =>
  ⟨_, pe_ix (ix_list.or ix_tup) pe_w pe_w hp, two ha hb st S fun x y H2 s S2 r1 r2 => by
    obtain ⟨N, _, hN, kN⟩ := r1.of S.mn
    obtain ⟨p, vs, rfl, q, l⟩ := den_seq hN hs
    obtain ⟨v, ev, dv⟩ := den_at l ed
    have hd := kN H2 d v dv
    have ey := den_int (eb ▸ r2)
    rcases q with q | q
    · exact .inl ⟨p, vs, i, v, rfl, ey, q, ev, k v H2 s S2 hd⟩
    · exact .inr ⟨p, vs, i, v, rfl, ey, q, ev, k v H2 s S2 hd⟩⟩
/-- x in a list or tuple of ints -/
theorem inV_ints {i : Int} {ns : List Int} : inV (.int i) (ns.map V.int) = decide (i ∈ ns) := by
  induction ns with
  | nil => rfl
  | cons n ns ih =>
    unfold inV at ih ⊢
    rw [List.map_cons, List.any_cons, ih]
    show ((n == i) || _) = _
    by_cases h : n = i
    · subst h; simp
    · have : ¬ i = n := fun q => h q.symm
      simp [h, this]
theorem flat_ints (ns : List Int) : (ns.map V.int).all flatV = true := by
  induction ns with
  | nil => rfl
  | cons n ns ih => rw [List.map_cons, List.all_cons, ih]; rfl
theorem ec_in {ra rb : RK} {i : Int} {ns : List Int} (ha : Ev X a ρ ra m1 ρ1) (hb : Ev X b ρ1 rb m2 ρ2) (ea : ra.d = .int i) (eb : rb.d.its = ns.map .int) (hs : rb.d.seq = true := by rfl) (st : (ra.st || !m2) = true := by rfl) : EvC X .In a b ρ (decide (i ∈ ns)) (m1 || m2) ρ2 := fun B G M O σ H Q S k =>
  ⟨_, pc_R op_in_seq, two ha hb st S fun x y H2 s S2 r1 r2 => by
    obtain ⟨p, vs, rfl, q, l⟩ := den_seq r2 hs
    rw [eb] at l
    have e := l.ints
    subst e
    have ex := den_int (ea ▸ r1.low)
    subst ex
    refine ⟨p, _, rfl, q, rfl, flat_ints ns, ?_⟩
    show Q (.bl (inV _ _)) H2
    rw [inV_ints]
    exact k H2 s S2⟩
theorem ec_notIn {ra rb : RK} {i : Int} {ns : List Int} (ha : Ev X a ρ ra m1 ρ1) (hb : Ev X b ρ1 rb m2 ρ2) (ea : ra.d = .int i) (eb : rb.d.its = ns.map .int) (hs : rb.d.seq = true := by rfl) (st : (ra.st || !m2) = true := by rfl) : EvC X .NotIn a b ρ (!decide (i ∈ ns)) (m1 || m2) ρ2 := fun B G M O σ H Q S k =>
  ⟨_, pc_R op_notIn_seq, two ha hb st S fun x y H2 s S2 r1 r2 => by
    obtain ⟨p, vs, rfl, q, l⟩ := den_seq r2 hs
    rw [eb] at l
    have e := l.ints
    subst e
    have ex := den_int (ea ▸ r1.low)
    subst ex
    refine ⟨p, _, rfl, q, rfl, flat_ints ns, ?_⟩
    show Q (.bl (!inV _ _)) H2
    rw [inV_ints]
    exact k H2 s S2⟩
end
end N50
/-! text Ev2 -/
set_option maxHeartbeats 4000000
namespace N50
open PySem PySem.Spec PyProof.Rows L2

section
variable {K : PySem.W.Frag} {M O : Addr → Prop} {H H' H1 H2 : Hp} {m : Bool}
theorem ArgOk.of {r : RK} {v : V} (h : ResOk K M H H' r v) (mn : ∀ a, M a → H a ≠ none) : ArgOk K M H' r v := by
  cases r with
  | v d => exact h
  | n d => exact h.den rfl mn
  | b d => exact h
theorem ArgOk.low {r : RK} {v : V} (h : ArgOk K M H r v) : Den K (fun _ => False) H r.d v := by
  cases r with
  | v d => exact Den.low h
  | n d => exact Den.low h
  | b d => exact h
theorem ArgOk.den {r : RK} {v : V} (h : ArgOk K M H r v) (s : r.st = true) : Den K M H r.d v := by
  cases r with
  | v d => exact h
  | n d => exact h
  | b d => exact nomatch s
theorem ArgsOk.den : ∀ {rs : List RK} {vs : List V}, ArgsOk K M H rs vs → rs.all RK.st = true → DenL K M H (rs.map RK.d) vs
  | _, _, .nil, _ => .nil
  | r :: rs, _, .cons h t, s => by
    rw [List.all_cons, Bool.and_eq_true] at s
    exact .cons (h.den s.1) (ArgsOk.den t s.2)
theorem ArgsOk.low : ∀ {rs : List RK} {vs : List V}, ArgsOk K M H rs vs → DenL K (fun _ => False) H (rs.map RK.d) vs
  | _, _, .nil => .nil
  | r :: rs, _, .cons h t => .cons (ArgOk.low h) (ArgsOk.low t)
/-- new behind is new ahead -/
theorem Stp.fresh (s : Stp m O H H') (om : ∀ a, O a → M a) (mn' : ∀ a, M a → H' a ≠ none) {p : Addr} (h : H' p = none) : H p = none := by
  exact s.no h
theorem OwnOk.back {p : Addr} {d : D} (h : OwnOk K (fun a => M a ∨ a = p) H p d) : OwnOk K M H p d := h.to (fun _ _ z => .inl z) (fun _ _ _ _ e => e) rfl
/-- data that stood before keeps off a new address -/
theorem Den.off {d : D} {v : V} {p : Addr} (h : Den K M H d v) (n : H p = none) : Den K (fun a => M a ∨ a = p) H d v := h.to (fun a q z => by
  rcases z with z | z
  · exact z
  · rw [z, n] at q; exact absurd rfl q) fun _ _ _ _ e => e
theorem DenL.off {d : List D} {v : List V} {p : Addr} (h : DenL K M H d v) (n : H p = none) : DenL K (fun a => M a ∨ a = p) H d v := h.to (fun a q z => by
  rcases z with z | z
  · exact z
  · rw [z, n] at q; exact absurd rfl q) fun _ _ _ _ e => e
theorem Den.grow {d : D} {v : V} {p : Addr} {o : HO} (h : Den K M H d v) (n : H p = none) : Den K M (upd H p o) d v := h.to (fun _ _ z => z) fun a u _ _ e => by rw [upd_ne (ne_of_none e n)]; exact e
theorem DenL.grow {d : List D} {v : List V} {p : Addr} {o : HO} (h : DenL K M H d v) (n : H p = none) : DenL K M (upd H p o) d v := h.to (fun _ _ z => z) fun a u _ _ e => by rw [upd_ne (ne_of_none e n)]; exact e
/-- a new list, a new tuple -/
theorem newL {ds : List D} {vs : List V} {p : Addr} (n : H p = none) (z : ds.length ≤ sizeLine) (l : DenL K M H ds vs) : OwnOk K (fun a => M a ∨ a = p) (upd H p (.lst vs)) p (.lst ds) :=
  ⟨z, vs, upd_same, (l.off n).grow n⟩
theorem newT {ds : List D} {vs : List V} {p : Addr} (n : H p = none) (mn : ∀ a, M a → H a ≠ none) (z : ds.length ≤ sizeLine) (l : DenL K M H ds vs) : Den K M (upd H p (.tup vs)) (.tup ds) (.ref p) :=
  .tup (fun q => mn p q n) (.inl upd_same) z (l.grow n)
theorem newLD {ds : List D} {vs : List V} {p : Addr} (n : H p = none) (mn : ∀ a, M a → H a ≠ none) (z : ds.length ≤ sizeLine) (l : DenL K M H ds vs) : Den K M (upd H p (.lst vs)) (.lst ds) (.ref p) :=
  .lst (fun q => mn p q n) upd_same z (l.grow n)
theorem den_lt {d : D} {v : V} (h : Den K M H d v) (hs : d.seq = true) : (∃ p vs, v = .ref p ∧ SqL K H p vs ∧ DenL K M H d.its vs) ∨ (∃ p vs, v = .ref p ∧ SqT K H p vs ∧ d = .tup d.its) := by
  cases h with
  | tup n e z l => exact .inr ⟨_, _, rfl, .inl e, rfl⟩
  | lst n e z l => exact .inl ⟨_, _, rfl, .inl (.inl e), l⟩
  | scr q zq =>
    refine .inl ⟨_, _, rfl, ?_, DenL.ofInts _⟩
    rcases q with ⟨_, q⟩ | q
    · exact .inl q
    · exact .inr q
  | _ => exact nomatch hs
end

section
variable {X : Cx} {a b c e : Expr} {es : List Expr} {ρ ρ1 ρ2 ρ3 : En} {m m1 m2 : Bool} {pos p : Pos} {x : Str} {rs : List RK} {r : RK}
/-! ### arguments, displays -/
theorem ea_nil : EvA X [] ρ [] false ρ := fun B G M O σ H Q S k => ⟨_, pa_nil, k [] H Stp.refl S .nil⟩
theorem ea_cons (h : Ev X e ρ r m1 ρ1) (hr : EvA X es ρ1 rs m2 ρ2) (st : (r.st || !m2) = true := by rfl) (hs : starEach (e :: es) X.env = (false, eval e X.env) :: starEach es X.env := by rfl) : EvA X (e :: es) ρ (r :: rs) (m1 || m2) ρ2 := fun B G M O σ H Q S k =>
  ⟨_, pa_cons pe_w pa_w hs, h B G M O σ H _ S fun v H1 s1 S1 r1 => hr B G M O σ H1 _ S1 fun vs H2 s2 S2 r2 => k (v :: vs) H2 (s1.trans s2) S2 (.cons (ArgOk.of (r1.stp s1 s2 st S.om S.mn) S.mn) r2)⟩
theorem szb {n : Nat} (h : Nat.ble n 100000 = true) : n ≤ sizeLine := by rw [sizeLine_eq]; have := Nat.le_of_ble_eq_true h; omega
theorem ev_tup {j : Nat} (h : EvA X es ρ rs m ρ1) (hst : rs.all RK.st = true := by rfl) (hz : rs.length ≤ sizeLine := by exact szb rfl) : Ev X (.Tuple es j pos) ρ (.v (.tup (rs.map RK.d))) m ρ1 := fun B G M O σ H Q S k =>
  ⟨_, pe_tup pa_w, h B G M O σ H _ S fun vs H1 s S1 r => by
    have l := r.den hst
    have hl := l.length
    rw [List.length_map] at hl
    exact ⟨by omega, fun q hq => k _ _ (by have := s.trans (Stp.new (m := false) (o := .tup vs) hq); rwa [Bool.or_false] at this) (S1.new hq) (newT hq S1.mn (by rw [List.length_map]; exact hz) l)⟩⟩
theorem ev_lst (h : EvA X es ρ rs m ρ1) (hst : rs.all RK.st = true := by rfl) (hz : rs.length ≤ sizeLine := by exact szb rfl) : Ev X (.List es pos) ρ (.n (.lst (rs.map RK.d))) m ρ1 := fun B G M O σ H Q S k =>
  ⟨_, pe_lst pa_w, h B G M O σ H _ S fun vs H1 s S1 r => by
    have l := r.den hst
    have hl := l.length
    rw [List.length_map] at hl
    exact ⟨by omega, fun q hq => k _ _ (by have := s.trans (Stp.new (m := false) (o := .lst vs) hq); rwa [Bool.or_false] at this) (S1.new hq) ⟨q, rfl, s.fresh S1.om S1.mn hq, newL hq (by rw [List.length_map]; exact hz) l⟩⟩⟩
theorem sz0 : (0 : Nat) ≤ sizeLine := Nat.zero_le _
theorem szc {n : Nat} (h : n ≤ 100000) : n ≤ sizeLine := by rw [sizeLine_eq]; omega
theorem szl {n : Nat} (h : n < 100000) : n < sizeLine := by rw [sizeLine_eq]; omega

/-! ### calls of built-ins by values -/
/-- what the rule r gives on such arguments -/
def BR (K : PySem.W.Frag) (rr : List V → Hp → VK → Prop) (rs : List RK) (res : RK) : Prop :=
  ∀ (M : Addr → Prop) (H : Hp) (vs : List V) (Q : VK), (∀ a, M a → H a ≠ none) → ArgsOk K M H rs vs → (∀ v H', Stp false M H H' → ResOk K M H H' res v → Q v H') → rr vs H Q
theorem ResOk.back {K : PySem.W.Frag} {M O : Addr → Prop} {H H1 H2 : Hp} {m : Bool} {v : V} (h : ResOk K M H1 H2 r v) (s : Stp m O H H1) (om : ∀ a, O a → M a) (mn : ∀ a, M a → H1 a ≠ none) : ResOk K M H H2 r v := by
  cases r with
  | v d => exact h
  | n d => obtain ⟨p, e, n, o⟩ := h; exact ⟨p, e, s.fresh om mn n, o⟩
  | b d => exact h
theorem ev_B {id : String} {rr : List V → Hp → VK → Prop} {res : RK} (hc : CallR X (.builtin id) rr) (hg : Gl X x) (hm : X.mg x = none) (hv : bootBuiltins x = some (.builtin id)) (h : EvA X (e :: es) ρ rs m ρ1) (hb : BR X.K rr rs res)
    (hn : x ≠ "__name__" := by decide) (hdb : (x == ("__debug__" : Str)) = false := by decide) (he : starEach (e :: es) X.env = (false, eval e X.env) :: starEach es X.env := by rfl) (hpl : (backTo pos (starEach es X.env)).any (·.1) = false := by rfl) :
    Ev X (.Call (.Name x p) (e :: es) [] pos) ρ res m ρ1 := fun B G M O σ H Q S k =>
  ⟨_, pe_callB hc hg hm hv pa_w hn hdb he hpl, h B G M O σ H _ S fun vs H1 s S1 r => hb M H1 vs Q S1.mn r fun v H2 s2 r2 =>
    k v H2 (by have := s.trans (m2 := false) (O := O) (H2 := H2) s2.of; rwa [Bool.or_false] at this) (S1.stp (O := O) s2.of) (r2.back s S1.om S1.mn)⟩
theorem ev_Ty {T : String} {rr : List V → Hp → VK → Prop} {res : RK} (hc : CallR X (.type T) rr) (hg : Gl X x) (hm : X.mg x = none) (hv : bootBuiltins x = some (.type T)) (h : EvA X (e :: es) ρ rs m ρ1) (hb : BR X.K rr rs res)
    (hn : x ≠ "__name__" := by decide) (hdb : (x == ("__debug__" : Str)) = false := by decide) (he : starEach (e :: es) X.env = (false, eval e X.env) :: starEach es X.env := by rfl) (hpl : (backTo pos (starEach es X.env)).any (·.1) = false := by rfl) :
    Ev X (.Call (.Name x p) (e :: es) [] pos) ρ res m ρ1 := fun B G M O σ H Q S k =>
  ⟨_, pe_callTy hc hg hm hv pa_w hn hdb he hpl, h B G M O σ H _ S fun vs H1 s S1 r => hb M H1 vs Q S1.mn r fun v H2 s2 r2 =>
    k v H2 (by have := s.trans (m2 := false) (O := O) (H2 := H2) s2.of; rwa [Bool.or_false] at this) (S1.stp (O := O) s2.of) (r2.back s S1.om S1.mn)⟩
theorem a1 {K : PySem.W.Frag} {M : Addr → Prop} {H : Hp} {vs : List V} (h : ArgsOk K M H [r] vs) : ∃ v, vs = [v] ∧ ArgOk K M H r v := by
  cases h with
  | cons h t => cases t; exact ⟨_, rfl, h⟩
theorem a2 {K : PySem.W.Frag} {M : Addr → Prop} {H : Hp} {vs : List V} {r2 : RK} (h : ArgsOk K M H [r, r2] vs) : ∃ v u, vs = [v, u] ∧ ArgOk K M H r v ∧ ArgOk K M H r2 u := by
  cases h with
  | cons h t =>
    obtain ⟨u, rfl, h2⟩ := a1 t
    exact ⟨_, u, rfl, h, h2⟩
theorem a3 {K : PySem.W.Frag} {M : Addr → Prop} {H : Hp} {vs : List V} {r2 r3 : RK} (h : ArgsOk K M H [r, r2, r3] vs) : ∃ v u w, vs = [v, u, w] ∧ ArgOk K M H r v ∧ ArgOk K M H r2 u ∧ ArgOk K M H r3 w := by
  cases h with
  | cons h t =>
    obtain ⟨u, w, rfl, h2, h3⟩ := a2 t
    exact ⟨_, u, w, rfl, h, h2, h3⟩
theorem ev_len (h : Ev X a ρ r m ρ1) (hm : X.mg "len" = none) (hs : r.d.seq = true := by rfl) (hg : Gl X "len" := by rfl) (he : starEach [a] X.env = (false, eval a X.env) :: starEach [] X.env := by rfl) :
    Ev X (.Call (.Name "len" p) [a] [] pos) ρ (.v (.int (r.d.its.length : Nat))) m ρ1 := by
  have := ev_B (pos := pos) (p := p) (res := .v (.int (r.d.its.length : Nat))) call_len_seq hg hm PySem.boot_len (ea_cons h ea_nil (st := by simp) (hs := he)) (fun M H vs Q mn r k => by
    obtain ⟨v, rfl, h⟩ := a1 r
    obtain ⟨q, us, rfl, hq, l⟩ := den_seq (ArgOk.low h) hs
    refine ⟨q, us, rfl, hq, ?_⟩
    rw [← l.length]
    exact k _ H Stp.refl (.int _)) (he := he) (hpl := rfl)
  rwa [Bool.or_false] at this
/-- tuple(xs) -/
theorem ev_tuple (h : Ev X a ρ r m ρ1) (hm : X.mg "tuple" = none) (hs : r.d.seq = true := by rfl) (hg : Gl X "tuple" := by rfl) (he : starEach [a] X.env = (false, eval a X.env) :: starEach [] X.env := by rfl) :
    Ev X (.Call (.Name "tuple" p) [a] [] pos) ρ (r.of (.tup r.d.its)) m ρ1 := fun B G M O σ H Q S k =>
  ⟨_, pe_tupleOf hg hm pe_w he, h B G M O σ H _ S fun v H1 s S1 r1 => by
    obtain ⟨N, hNM, hN, kN⟩ := r1.of S.mn
    have hz := den_sz hN hs
    have mnN : ∀ q, N q → H1 q ≠ none := fun q z => S1.mn q (hNM q z)
    have fresh : ∀ (q : Addr) (us : List V), DenL X.K N H1 r.d.its us → H1 q = none → Q (.ref q) (upd H1 q (.tup us)) := fun q us l n =>
      k _ _ (by have := s.trans (Stp.new (m := false) (o := .tup us) n); rwa [Bool.or_false] at this) (S1.new n) (kN _ _ _ (newT n mnN hz l))
    rcases den_lt hN hs with ⟨q, us, e, hq, l⟩ | ⟨q, us, e, hq, et⟩
    · exact .inl ⟨q, us, e, hq, fun q hq => fresh q _ l hq⟩
    · refine .inr ⟨q, us, e, hq, ?_⟩
      rw [et, e] at hN
      exact k _ H1 s S1 (kN H1 _ _ hN)⟩
/-- list(xs): of what keeps -/
theorem ev_list (h : Ev X a ρ r m ρ1) (hm : X.mg "list" = none) (hs : r.d.seq = true := by rfl) (st : r.st = true := by rfl) (hg : Gl X "list" := by rfl) (he : starEach [a] X.env = (false, eval a X.env) :: starEach [] X.env := by rfl) :
    Ev X (.Call (.Name "list" p) [a] [] pos) ρ (.n (.lst r.d.its)) m ρ1 := by
  have := ev_Ty (pos := pos) (p := p) (res := .n (.lst r.d.its)) call_list_of hg hm (by decide +kernel) (ea_cons h ea_nil (st := by simp) (hs := he)) (fun M H vs Q mn ar k => by
    obtain ⟨v, rfl, h⟩ := a1 ar
    have hz := den_sz (h.den st) hs
    obtain ⟨q, us, rfl, hq, l⟩ := den_seq (h.den st) hs
    exact ⟨q, us, rfl, hq, fun z hz' => k _ _ (Stp.new hz') ⟨z, rfl, hz', newL hz' hz l⟩⟩) (he := he) (hpl := rfl)
  rwa [Bool.or_false] at this
/-- list(xs) of ints, whatever it is -/
theorem ev_listI {ns : List Int} (h : Ev X a ρ r m ρ1) (e : r.d.its = ns.map .int) (hm : X.mg "list" = none) (hs : r.d.seq = true := by rfl) (hg : Gl X "list" := by rfl) (he : starEach [a] X.env = (false, eval a X.env) :: starEach [] X.env := by rfl) :
    Ev X (.Call (.Name "list" p) [a] [] pos) ρ (.n (.lst (ns.map .int))) m ρ1 := by
  have := ev_Ty (pos := pos) (p := p) (res := .n (.lst (ns.map .int))) call_list_of hg hm (by decide +kernel) (ea_cons h ea_nil (st := by simp) (hs := he)) (fun M H vs Q mn ar k => by
    obtain ⟨v, rfl, h⟩ := a1 ar
    have hz := den_sz (ArgOk.low h) hs
    rw [e, List.length_map] at hz
    obtain ⟨q, us, rfl, hq, l⟩ := den_seq (ArgOk.low h) hs
    rw [e] at l
    have eu := l.ints
    subst eu
    exact ⟨q, _, rfl, hq, fun z hz' => k _ _ (Stp.new hz') ⟨z, rfl, hz', newL hz' (by rw [List.length_map]; exact hz) (DenL.ofInts ns)⟩⟩) (he := he) (hpl := rfl)
  rwa [Bool.or_false] at this
/-- sorted ints -/
def srt (ns : List Int) : List Int := ns.mergeSort fun a b => decide (a ≤ b)
theorem srt_perm (ns : List Int) : (srt ns).Perm ns := List.mergeSort_perm _ _
theorem srt_pw (ns : List Int) : (srt ns).Pairwise (· ≤ ·) := by
  have := List.pairwise_mergeSort (le := fun a b : Int => decide (a ≤ b)) (fun a b c h1 h2 => by simp at *; omega) (fun a b => by simp; omega) ns
  exact this.imp fun h => by simpa using h
theorem srt_uniq {ns ms : List Int} (p : ms.Perm ns) (s : ms.Pairwise (· ≤ ·)) : ms = srt ns :=
  List.Perm.eq_of_pairwise (le := fun a b => a ≤ b) (fun a b _ _ h1 h2 => Int.le_antisymm h1 h2) s (srt_pw ns) (p.trans (srt_perm ns).symm)
theorem srt_length (ns : List Int) : (srt ns).length = ns.length := (srt_perm ns).length_eq
theorem ev_sorted {ns : List Int} (h : Ev X a ρ r m ρ1) (e : r.d.its = ns.map .int) (hm : X.mg "sorted" = none) (hs : r.d.seq = true := by rfl) (hl : ∀ ds, r.d ≠ .tup ds := by exact fun _ h => nomatch h) (hg : Gl X "sorted" := by rfl) (he : starEach [a] X.env = (false, eval a X.env) :: starEach [] X.env := by rfl) :
    Ev X (.Call (.Name "sorted" p) [a] [] pos) ρ (.n (.lst ((srt ns).map .int))) m ρ1 := by
  have := ev_B (pos := pos) (p := p) (res := .n (.lst ((srt ns).map .int))) cr_sortedI hg hm (by decide +kernel) (ea_cons h ea_nil (st := by simp) (hs := he)) (fun M H vs Q mn ar k => by
    obtain ⟨v, rfl, h⟩ := a1 ar
    have hlow := ArgOk.low h
    have hz := den_sz hlow hs
    rw [e, List.length_map] at hz
    obtain ⟨q, us, rfl, hq, l⟩ : ∃ q us, v = .ref q ∧ SqL X.K H q us ∧ DenL X.K (fun _ => False) H r.d.its us := by
      rcases den_lt hlow hs with h | ⟨_, _, _, _, et⟩
      · exact h
      · exact absurd et (hl _)
    rw [e] at l
    have eu := l.ints
    subst eu
    refine ⟨q, ns, rfl, hq, fun ns' z hp hw hz' => ?_⟩
    rw [srt_uniq hp hw]
    exact k _ _ (Stp.new hz') ⟨z, rfl, hz', newL hz' (by rw [List.length_map, srt_length]; exact hz) (DenL.ofInts _)⟩) (he := he) (hpl := rfl)
  rwa [Bool.or_false] at this
theorem ev_sum {ns : List Int} {ds : List D} (h : Ev X a ρ r m ρ1) (ed : r.d = .lst ds) (e : ds = ns.map .int) (hm : X.mg "sum" = none) (hc : X.calm = true := by rfl) (hg : Gl X "sum" := by rfl) (he : starEach [a] X.env = (false, eval a X.env) :: starEach [] X.env := by rfl) :
    Ev X (.Call (.Name "sum" p) [a] [] pos) ρ (.v (.int ns.sum)) m ρ1 := by
  have := ev_B (pos := pos) (p := p) (res := .v (.int ns.sum)) (cr_sum hc) hg hm (by decide +kernel) (ea_cons h ea_nil (st := by simp) (hs := he)) (fun M H vs Q mn ar k => by
    obtain ⟨v, rfl, h⟩ := a1 ar
    have hlow := ArgOk.low h
    rw [ed, e] at hlow
    cases hlow with
    | lst n e z l =>
      have eu := l.ints
      subst eu
      exact ⟨_, ns, rfl, .inl (.inl e), k _ H Stp.refl (.int _)⟩) (he := he) (hpl := rfl)
  rwa [Bool.or_false] at this
theorem ev_all {bs : List Bool} {ds : List D} (h : Ev X a ρ r m ρ1) (ed : r.d = .lst ds) (e : ds = bs.map .bl) (hm : X.mg "all" = none) (hc : X.calm = true := by rfl) (hg : Gl X "all" := by rfl) (he : starEach [a] X.env = (false, eval a X.env) :: starEach [] X.env := by rfl) :
    Ev X (.Call (.Name "all" p) [a] [] pos) ρ (.v (.bl (bs.all id))) m ρ1 := by
  have := ev_B (pos := pos) (p := p) (res := .v (.bl (bs.all id))) (cr_all hc) hg hm (by decide +kernel) (ea_cons h ea_nil (st := by simp) (hs := he)) (fun M H vs Q mn ar k => by
    obtain ⟨v, rfl, h⟩ := a1 ar
    have hlow := ArgOk.low h
    rw [ed, e] at hlow
    cases hlow with
    | lst n e z l =>
      have eu := l.bls
      subst eu
      exact ⟨_, bs, rfl, .inl (.inl e), k _ H Stp.refl (.bl _)⟩) (he := he) (hpl := rfl)
  rwa [Bool.or_false] at this
theorem ev_abs {i : Int} (h : Ev X a ρ r m ρ1) (e : r.d = .int i) (hm : X.mg "abs" = none) (hg : Gl X "abs" := by rfl) (he : starEach [a] X.env = (false, eval a X.env) :: starEach [] X.env := by rfl) :
    Ev X (.Call (.Name "abs" p) [a] [] pos) ρ (.v (.int (if i < 0 then -i else i))) m ρ1 := by
  have := ev_B (pos := pos) (p := p) (res := .v (.int (if i < 0 then -i else i))) call_abs hg hm (by decide +kernel) (ea_cons h ea_nil (st := by simp) (hs := he)) (fun M H vs Q mn ar k => by
    obtain ⟨v, rfl, h⟩ := a1 ar
    have hlow := ArgOk.low h
    rw [e] at hlow
    rw [den_int hlow]
    exact ⟨i, rfl, k _ H Stp.refl (.int _)⟩) (he := he) (hpl := rfl)
  rwa [Bool.or_false] at this
theorem ev_int {i : Int} (h : Ev X a ρ r m ρ1) (e : r.d = .int i) (hm : X.mg "int" = none) (hg : Gl X "int" := by rfl) (he : starEach [a] X.env = (false, eval a X.env) :: starEach [] X.env := by rfl) :
    Ev X (.Call (.Name "int" p) [a] [] pos) ρ (.v (.int i)) m ρ1 := by
  have := ev_Ty (pos := pos) (p := p) (res := .v (.int i)) call_int1 hg hm (by decide +kernel) (ea_cons h ea_nil (st := by simp) (hs := he)) (fun M H vs Q mn ar k => by
    obtain ⟨v, rfl, h⟩ := a1 ar
    have hlow := ArgOk.low h
    rw [e] at hlow
    rw [den_int hlow]
    exact .inl ⟨i, rfl, k _ H Stp.refl (.int _)⟩) (he := he) (hpl := rfl)
  rwa [Bool.or_false] at this
theorem ev_intB {i : Bool} (h : Ev X a ρ r m ρ1) (e : r.d = .bl i) (hm : X.mg "int" = none) (hg : Gl X "int" := by rfl) (he : starEach [a] X.env = (false, eval a X.env) :: starEach [] X.env := by rfl) :
    Ev X (.Call (.Name "int" p) [a] [] pos) ρ (.v (.int (if i then 1 else 0))) m ρ1 := by
  have := ev_Ty (pos := pos) (p := p) (res := .v (.int (if i then 1 else 0))) call_int1 hg hm (by decide +kernel) (ea_cons h ea_nil (st := by simp) (hs := he)) (fun M H vs Q mn ar k => by
    obtain ⟨v, rfl, h⟩ := a1 ar
    have hlow := ArgOk.low h
    rw [e] at hlow
    rw [den_bl hlow]
    exact .inr ⟨i, rfl, k _ H Stp.refl (.int _)⟩) (he := he) (hpl := rfl)
  rwa [Bool.or_false] at this
def min3 (i j k : Int) : Int := let m := if j < i then j else i; if k < m then k else m
theorem ev_min3 {i j l : Int} {ra rb rc : RK} (h : EvA X [a, b, c] ρ [ra, rb, rc] m ρ1) (e1 : ra.d = .int i) (e2 : rb.d = .int j) (e3 : rc.d = .int l) (hm : X.mg "min" = none) (hc : X.calm = true := by rfl) (hg : Gl X "min" := by rfl) (he : starEach [a, b, c] X.env = (false, eval a X.env) :: starEach [b, c] X.env := by rfl) (hpl : (backTo pos (starEach [b, c] X.env)).any (·.1) = false := by rfl) :
    Ev X (.Call (.Name "min" p) [a, b, c] [] pos) ρ (.v (.int (min3 i j l))) m ρ1 :=
  ev_B (res := .v (.int (min3 i j l))) (call_min3Nu hc) hg hm (by decide +kernel) h (fun M H vs Q mn ar k => by
    obtain ⟨v, u, w, rfl, h1, h2, h3⟩ := a3 ar
    have g1 := ArgOk.low h1
    have g2 := ArgOk.low h2
    have g3 := ArgOk.low h3
    rw [e1] at g1
    rw [e2] at g2
    rw [e3] at g3
    rw [den_int g1, den_int g2, den_int g3]
    refine ⟨_, _, _, V.int (min3 i j l), rfl, ?_, k _ H Stp.refl (.int _)⟩
    show (nuMin2 (.int i) (.int j)).bind _ = _
    have e : nuMin2 (.int i) (.int j) = some (.int (if j < i then j else i)) := by
      show some (if decide (j < i) = true then V.int j else V.int i) = _
      by_cases q : j < i <;> simp [q]
    rw [e]
    show some (if decide (l < (if j < i then j else i)) = true then V.int l else V.int (if j < i then j else i)) = some (V.int (min3 i j l))
    unfold min3
    by_cases q : l < (if j < i then j else i)
    · simp [q]
    · simp [q]) (he := he) (hpl := hpl)
/-- isinstance(x, bool) -/
theorem ev_isBool {c : Bool} {p2 : Pos} (h : Ev X a ρ r m ρ1) (e : r.d = .bl c) (hm : X.mg "isinstance" = none) (hm2 : X.mg "bool" = none) (hg : Gl X "isinstance" := by rfl) (hg2 : Gl X "bool" := by rfl) (he : starEach [a, .Name "bool" p2] X.env = (false, eval a X.env) :: starEach [.Name "bool" p2] X.env := by rfl) (he2 : starEach [.Name "bool" p2] X.env = (false, eval (.Name "bool" p2) X.env) :: starEach [] X.env := by rfl) (hpl : (backTo pos (starEach [.Name "bool" p2] X.env)).any (·.1) = false := by rfl) :
    Ev X (.Call (.Name "isinstance" p) [a, .Name "bool" p2] [] pos) ρ (.v (.bl true)) m ρ1 := fun B G M O σ H Q S k =>
  ⟨_, pe_callB call_isi hg hm boot_isinstance (pa_cons pe_w (pa_cons (pe_bltn (v := .ty "bool") hg2 hm2 (by decide +kernel) rfl) pa_nil he2) he) (by decide) (by decide) he hpl, h B G M O σ H _ S fun v H1 s S1 q => by
    have q' := q.low
    rw [e] at q'
    rw [den_bl q']
    exact ⟨_, _, .type "bool", .type "bool", true, rfl, .ty _, .base (.bl c), kit_ty (by decide +kernel), k _ H1 s S1 (.bl _)⟩⟩
end
end N50
/-! text Ev3 -/
set_option maxHeartbeats 4000000
namespace N50
open PySem PySem.Spec PyProof.Rows L2

section
variable {X : Cx} {a b c e : Expr} {es : List Expr} {ρ ρ1 ρ2 ρ3 : En} {m m1 m2 m3 : Bool} {pos p p2 : Pos} {x : Str} {rs : List RK} {r ra rb : RK}
theorem st_alloc {m : Bool} {O : Addr → Prop} {H H1 : Hp} {q : Addr} {o : HO} (s : Stp m O H H1) (n : H1 q = none) : Stp m O H (upd H1 q o) := by
  have := s.trans (Stp.new (m := false) (o := o) n)
  rwa [Bool.or_false] at this
/-! ### + of lists and of tuples -/
theorem den_lst {K : PySem.W.Frag} {M : Addr → Prop} {H : Hp} {ds : List D} {v : V} (h : Den K M H (.lst ds) v) : ∃ p vs, v = .ref p ∧ H p = some (.lst vs) ∧ DenL K M H ds vs ∧ ds.length ≤ sizeLine ∧ ¬ M p := by
  cases h with
  | lst n e z l => exact ⟨_, _, rfl, e, l, z, n⟩
theorem den_tup {K : PySem.W.Frag} {M : Addr → Prop} {H : Hp} {ds : List D} {v : V} (h : Den K M H (.tup ds) v) : ∃ p vs, v = .ref p ∧ Rd H p (.tup vs) ∧ DenL K M H ds vs ∧ ds.length ≤ sizeLine ∧ ¬ M p := by
  cases h with
  | tup n e z l => exact ⟨_, _, rfl, e, l, z, n⟩
theorem ev_cat {xs ys : List D} (ha : Ev X a ρ ra m1 ρ1) (hb : Ev X b ρ1 rb m2 ρ2) (ea : ra.d = .lst xs) (eb : rb.d = .lst ys) (hz : xs.length + ys.length ≤ sizeLine) (sa : ra.st = true := by rfl) (sb : rb.st = true := by rfl) :
    Ev X (.BinOp a .Add b pos) ρ (.n (.lst (xs ++ ys))) (m1 || m2) ρ2 := fun B G M O σ H Q S k =>
  ⟨_, pe_op op_cat pe_w pe_w, ha B G M O σ H _ S fun v1 H1 s1 S1 r1 => hb B G M O σ H1 _ S1 fun v2 H2 s2 S2 r2 => by
    have d1 := (r1.stp s1 s2 (by rw [sa]; rfl) S.om S.mn).den sa S.mn
    have d2 := r2.den sb S1.mn
    rw [ea] at d1
    rw [eb] at d2
    obtain ⟨p1, vs1, rfl, e1, l1, z1, n1⟩ := den_lst d1
    obtain ⟨p2, vs2, rfl, e2, l2, z2, n2⟩ := den_lst d2
    have h1 := l1.length
    have h2 := l2.length
    refine ⟨p1, p2, vs1, vs2, rfl, rfl, e1, e2, by omega, fun q hq => ?_⟩
    exact k _ _ (st_alloc (s1.trans s2) hq) (S2.new hq) ⟨q, rfl, (s1.trans s2).fresh S2.om S2.mn hq, newL hq (by rw [List.length_append]; exact hz) (l1.append l2)⟩⟩
theorem ev_catT {xs ys : List D} (ha : Ev X a ρ ra m1 ρ1) (hb : Ev X b ρ1 rb m2 ρ2) (ea : ra.d = .tup xs) (eb : rb.d = .tup ys) (hz : xs.length + ys.length ≤ sizeLine) (sa : ra.st = true := by rfl) (sb : rb.st = true := by rfl) :
    Ev X (.BinOp a .Add b pos) ρ (.v (.tup (xs ++ ys))) (m1 || m2) ρ2 := fun B G M O σ H Q S k =>
  ⟨_, pe_op op_catA pe_w pe_w, ha B G M O σ H _ S fun v1 H1 s1 S1 r1 => hb B G M O σ H1 _ S1 fun v2 H2 s2 S2 r2 => by
    have d1 := (r1.stp s1 s2 (by rw [sa]; rfl) S.om S.mn).den sa S.mn
    have d2 := r2.den sb S1.mn
    rw [ea] at d1
    rw [eb] at d2
    obtain ⟨p1, vs1, rfl, e1, l1, z1, n1⟩ := den_tup d1
    obtain ⟨p2, vs2, rfl, e2, l2, z2, n2⟩ := den_tup d2
    have h1 := l1.length
    have h2 := l2.length
    refine ⟨p1, p2, vs1, vs2, rfl, rfl, (.inl e1), (.inl e2), by omega, fun e => ?_, fun _ e => ?_, fun _ _ q hq => ?_⟩
    · subst e
      have : xs = [] := by simpa using h1
      subst this
      exact k _ _ (s1.trans s2) S2 d2
    · subst e
      have : ys = [] := by simpa using h2
      subst this
      refine k _ _ (s1.trans s2) S2 ?_
      rw [List.append_nil]
      exact d1
    · exact k _ _ (st_alloc (s1.trans s2) hq) (S2.new hq) (newT hq S2.mn (by rw [List.length_append]; exact hz) (l1.append l2))⟩

/-! ### slices -/
def cutD (xs : List D) (lo hi : Option Int) : List D := (xs.drop (HT.sIx xs.length 0 lo)).take (HT.sIx xs.length xs.length hi - HT.sIx xs.length 0 lo)
theorem den_cut {K : PySem.W.Frag} {M : Addr → Prop} {H : Hp} {ds : List D} {vs : List V} (l : DenL K M H ds vs) (lo hi : Option Int) : DenL K M H (cutD ds lo hi) (cutV vs lo hi) := by
  unfold cutD cutV
  rw [l.length]
  exact (l.drop _).take _
theorem cutD_length (xs : List D) (lo hi : Option Int) : (cutD xs lo hi).length ≤ xs.length := by
  unfold cutD
  rw [List.length_take, List.length_drop]
  omega
theorem cutD_map {α : Type} (f : α → D) (xs : List α) (lo hi : Option Int) : cutD (xs.map f) lo hi = ((xs.drop (HT.sIx xs.length 0 lo)).take (HT.sIx xs.length xs.length hi - HT.sIx xs.length 0 lo)).map f := by
  unfold cutD
  rw [List.length_map, List.map_take, List.map_drop]
theorem eo_none : EvO X none ρ none false ρ := fun B G M O σ H Q S k => ⟨_, po_none, k H Stp.refl S⟩
theorem eo_some {i : Int} (h : Ev X a ρ r m ρ1) (e : r.d = .int i) : EvO X (some a) ρ (some i) m ρ1 := fun B G M O σ H Q S k =>
  ⟨_, po_some pe_w, h B G M O σ H _ S fun v H1 s S1 q => ⟨i, den_int (e ▸ q.low), k H1 s S1⟩⟩
/-- a list's slice: a new list -/
theorem ev_slL {xs : List D} {lo hi : Option Expr} {l u : Option Int} (ha : Ev X a ρ r m1 ρ1) (ea : r.d = .lst xs) (hl : EvO X lo ρ1 l m2 ρ2) (hu : EvO X hi ρ2 u m3 ρ3) (st : r.st = true := by rfl) :
    Ev X (.Subscript a (.Slice lo hi none p2) pos) ρ (.n (.lst (cutD xs l u))) (m1 || m2 || m3) ρ3 := fun B G M O σ H Q S k =>
  ⟨_, pe_slice sl_list pe_w po_w po_w, ha B G M O σ H _ S fun v H1 s1 S1 r1 => hl B G M O σ H1 _ S1 fun H2 s2 S2 => hu B G M O σ H2 _ S2 fun H3 s3 S3 => by
    have d1 := ((r1.stp s1 s2 (by rw [st]; rfl) S.om S.mn).stp (s1.trans s2) s3 (by rw [st]; rfl) S.om S.mn).den st S.mn
    rw [ea] at d1
    obtain ⟨p1, vs1, rfl, e1, l1, z1, n1⟩ := den_lst d1
    refine ⟨p1, vs1, rfl, .inl (.inl e1), fun q hq => ?_⟩
    exact k _ _ (st_alloc ((s1.trans s2).trans s3) hq) (S3.new hq) ⟨q, rfl, ((s1.trans s2).trans s3).fresh S3.om S3.mn hq, newL hq (Nat.le_trans (cutD_length _ _ _) z1) (den_cut l1 _ _)⟩⟩
theorem cutD_all {xs : List D} {lo hi : Option Int} (h : HT.sIx xs.length 0 lo = 0 ∧ HT.sIx xs.length xs.length hi = xs.length) : cutD xs lo hi = xs := by
  unfold cutD
  rw [h.1, h.2]
  simp
theorem ev_slT {xs : List D} {lo hi : Option Expr} {l u : Option Int} (ha : Ev X a ρ r m1 ρ1) (ea : r.d = .tup xs) (hl : EvO X lo ρ1 l m2 ρ2) (hu : EvO X hi ρ2 u m3 ρ3) (st : r.st = true := by rfl) :
    Ev X (.Subscript a (.Slice lo hi none p2) pos) ρ (.v (.tup (cutD xs l u))) (m1 || m2 || m3) ρ3 := fun B G M O σ H Q S k =>
  ⟨_, pe_slice sl_tupA pe_w po_w po_w, ha B G M O σ H _ S fun v H1 s1 S1 r1 => hl B G M O σ H1 _ S1 fun H2 s2 S2 => hu B G M O σ H2 _ S2 fun H3 s3 S3 => by
    have d1 := ((r1.stp s1 s2 (by rw [st]; rfl) S.om S.mn).stp (s1.trans s2) s3 (by rw [st]; rfl) S.om S.mn).den st S.mn
    rw [ea] at d1
    obtain ⟨p1, vs1, rfl, e1, l1, z1, n1⟩ := den_tup d1
    refine ⟨p1, vs1, rfl, .inl e1, fun h => ?_, fun _ q hq => ?_⟩
    · rw [← l1.length] at h
      refine k _ _ ((s1.trans s2).trans s3) S3 ?_
      rw [cutD_all h]
      exact d1
    · exact k _ _ (st_alloc ((s1.trans s2).trans s3) hq) (S3.new hq) (newT hq S3.mn (Nat.le_trans (cutD_length _ _ _) z1) (den_cut l1 _ _))⟩
/-- a text's item -/
theorem ev_ixS {z : Str} {i : Int} {ch : Nat} (ha : Ev X a ρ ra m1 ρ1) (hb : Ev X b ρ1 rb m2 ρ2) (ea : ra.d = .str z) (eb : rb.d = .int i) (hz : z.length ≤ sizeLine) (hat : atI z.cps.toList i = some ch) (st : (ra.st || !m2) = true := by rfl) (hp : PlainIx b := by exact fun _ _ => rfl) :
    Ev X (.Subscript a b pos) ρ (.v (.str ⟨#[ch]⟩)) (m1 || m2) ρ2 := fun B G M O σ H Q S k =>
  ⟨_, pe_ix ix_str pe_w pe_w hp, two ha hb st S fun x y H2 s S2 r1 r2 => ⟨z, i, ch, den_str (ea ▸ r1.low), den_int (eb ▸ r2), hz, hat, k _ H2 s S2 (.str _)⟩⟩

/-! ### == and in at any depth -/
mutual
def D.pd : D → PyData
  | .non => .none | .bl b => .bool b | .int i => .int i | .str x => .str x
  | .tup ds => .tuple (D.pdL ds) | .lst ds => .list (D.pdL ds) | .dic _ => .none | .scr ns => .list (ns.map .int) | .tupN ds => .tuple (D.pdL ds)
def D.pdL : List D → List PyData
  | [] => []
  | d :: ds => d.pd :: D.pdL ds
end
mutual
def D.sh : Nat → D → Bool
  | _, .non => true | _, .bl _ => true | _, .int _ => true | _, .str x => PyData.strOk x
  | n + 1, .tup ds => D.shL n ds | n + 1, .lst ds => D.shL n ds
  | _, _ => false
def D.shL : Nat → List D → Bool
  | _, [] => true
  | n, d :: ds => d.sh n && D.shL n ds
end
mutual
theorem Den.dp {K : PySem.W.Frag} {M : Addr → Prop} {H : Hp} : ∀ {d : D} {v : V} {n : Nat}, Den K M H d v → d.sh n = true → Dp K H v d.pd
  | _, _, _, .non, _ => .non
  | _, _, _, .bl b, _ => .bl b
  | _, _, _, .int i, _ => .int i
  | _, _, _, .str x, _ => .str x
  | _, _, 0, .tup _ _ _ _, s => nomatch s
  | _, _, n + 1, .tup _ e _ l, s => .tup (.inl e) (DenL.dp (n := n) l s)
  | _, _, 0, .lst _ _ _ _, s => nomatch s
  | _, _, n + 1, .lst _ e _ l, s => .lst (.inl (.inl e)) (DenL.dp (n := n) l s)
  | _, _, 0, .dic _ _, s => nomatch s
  | _, _, n + 1, .dic _ _, s => nomatch s
  | _, _, 0, .scr _ _, s => nomatch s
  | _, _, n + 1, .scr _ _, s => nomatch s
  | _, _, 0, .tupN _ _ _ _, s => nomatch s
  | _, _, n + 1, .tupN _ _ _ _, s => nomatch s
theorem DenL.dp {K : PySem.W.Frag} {M : Addr → Prop} {H : Hp} : ∀ {ds : List D} {vs : List V} {n : Nat}, DenL K M H ds vs → D.shL n ds = true → DpAll K H vs (D.pdL ds)
  | _, _, _, .nil, _ => .nil
  | _, _, n, .cons h t, s => by
    unfold D.shL at s
    rw [Bool.and_eq_true] at s
    exact .cons (Den.dp h s.1) (DenL.dp t s.2)
end
mutual
theorem D.sh_lay : ∀ {d : D} {n : Nat}, d.sh n = true → d.pd.canLay0 = true ∧ d.pd.depth ≤ n + 1
  | .non, n, _ => ⟨by simp [D.pd, PyData.canLay0], by simp [D.pd, PyData.depth]⟩
  | .bl _, n, _ => ⟨by simp [D.pd, PyData.canLay0], by simp [D.pd, PyData.depth]⟩
  | .int _, n, _ => ⟨by simp [D.pd, PyData.canLay0], by simp [D.pd, PyData.depth]⟩
  | .str x, n, h => ⟨by simpa [D.pd, PyData.canLay0, D.sh] using h, by simp [D.pd, PyData.depth]⟩
  | .tup ds, 0, h => nomatch h
  | .tup ds, n + 1, h => by
    have := D.shL_lay (ds := ds) (n := n) h
    refine ⟨by simpa [D.pd, PyData.canLay0] using this.1, ?_⟩
    have h2 := this.2
    simp only [D.pd, PyData.depth]
    omega
  | .lst ds, 0, h => nomatch h
  | .lst ds, n + 1, h => by
    have := D.shL_lay (ds := ds) (n := n) h
    refine ⟨by simpa [D.pd, PyData.canLay0] using this.1, ?_⟩
    have h2 := this.2
    simp only [D.pd, PyData.depth]
    omega
  | .dic _, 0, h => nomatch h
  | .dic _, n + 1, h => nomatch h
  | .scr _, 0, h => nomatch h
  | .scr _, n + 1, h => nomatch h
  | .tupN _, 0, h => nomatch h
  | .tupN _, n + 1, h => nomatch h
theorem D.shL_lay : ∀ {ds : List D} {n : Nat}, D.shL n ds = true → PyData.canLayAll0 (D.pdL ds) = true ∧ PyData.depthAll (D.pdL ds) ≤ n + 1
  | [], n, _ => ⟨by simp [D.pdL, PyData.canLayAll0], by simp [D.pdL, PyData.depthAll]⟩
  | d :: ds, n, h => by
    unfold D.shL at h
    rw [Bool.and_eq_true] at h
    have h1 := D.sh_lay h.1
    have h2 := D.shL_lay h.2
    refine ⟨by simp [D.pdL, PyData.canLayAll0, h1.1, h2.1], ?_⟩
    simp only [D.pdL, PyData.depthAll]
    have a := h1.2
    have b := h2.2
    omega
end
theorem D.shaped {d : D} (h : d.sh 50 = true) : SeqAt.shaped d.pd = true := by
  have := D.sh_lay h
  unfold SeqAt.shaped
  rw [this.1, Bool.true_and, decide_eq_true_eq]
  omega
theorem ec_eqD (hu : X.A.units + 64 < cLine) (ha : Ev X a ρ ra m1 ρ1) (hb : Ev X b ρ1 rb m2 ρ2) (sa : ra.d.sh 50 = true := by rfl) (sb : rb.d.sh 50 = true := by rfl) (st : (ra.st || !m2) = true := by rfl) : EvC X .Eq a b ρ (PyData.eqv ra.d.pd rb.d.pd) (m1 || m2) ρ2 := fun B G M O σ H Q S k =>
  ⟨_, pc_R (op_eqD hu), two ha hb st S fun x y H2 s S2 r1 r2 => ⟨_, _, r1.low.dp sa, r2.dp sb, D.shaped sa, D.shaped sb, k H2 s S2⟩⟩
theorem ec_neD (hu : X.A.units + 64 < cLine) (ha : Ev X a ρ ra m1 ρ1) (hb : Ev X b ρ1 rb m2 ρ2) (sa : ra.d.sh 50 = true := by rfl) (sb : rb.d.sh 50 = true := by rfl) (st : (ra.st || !m2) = true := by rfl) : EvC X .NotEq a b ρ (!PyData.eqv ra.d.pd rb.d.pd) (m1 || m2) ρ2 := fun B G M O σ H Q S k =>
  ⟨_, pc_R (op_neD hu), two ha hb st S fun x y H2 s S2 r1 r2 => ⟨_, _, r1.low.dp sa, r2.dp sb, D.shaped sa, D.shaped sb, k H2 s S2⟩⟩
theorem ec_notInD {ds : List D} (hu : X.A.units + 65 < cLine) (ha : Ev X a ρ ra m1 ρ1) (hb : Ev X b ρ1 rb m2 ρ2) (eb : rb.d = .lst ds) (sa : ra.d.sh 50 = true := by rfl) (sb : rb.d.sh 50 = true := by rfl) (st : (ra.st || !m2) = true := by rfl) :
    EvC X .NotIn a b ρ (!(D.pdL ds).any fun z => PyData.eqv z ra.d.pd) (m1 || m2) ρ2 := fun B G M O σ H Q S k =>
  ⟨_, pc_R (op_notInD hu), two ha hb st S fun x y H2 s S2 r1 r2 => by
    have r3 := r2.dp sb
    have s3 := D.shaped sb
    rw [eb] at r3 s3
    exact ⟨_, _, r1.low.dp sa, r3, D.shaped sa, s3, k H2 s S2⟩⟩
/-- x in a list of bools -/
theorem inV_bls {i : Bool} {ns : List Bool} : inV (.bl i) (ns.map V.bl) = decide (i ∈ ns) := by
  induction ns with
  | nil => rfl
  | cons n ns ih =>
    unfold inV at ih ⊢
    rw [List.map_cons, List.any_cons, ih]
    show ((n == i) || _) = _
    by_cases h : n = i
    · subst h; simp
    · have : ¬ i = n := fun q => h q.symm
      simp [h, this]
theorem flat_bls (ns : List Bool) : (ns.map V.bl).all flatV = true := by
  induction ns with
  | nil => rfl
  | cons n ns ih => rw [List.map_cons, List.all_cons, ih]; rfl
theorem ec_notInB {i : Bool} {ns : List Bool} (ha : Ev X a ρ ra m1 ρ1) (hb : Ev X b ρ1 rb m2 ρ2) (ea : ra.d = .bl i) (eb : rb.d.its = ns.map .bl) (hs : rb.d.seq = true := by rfl) (st : (ra.st || !m2) = true := by rfl) : EvC X .NotIn a b ρ (!decide (i ∈ ns)) (m1 || m2) ρ2 := fun B G M O σ H Q S k =>
  ⟨_, pc_R op_notIn_seq, two ha hb st S fun x y H2 s S2 r1 r2 => by
    obtain ⟨p, vs, rfl, q, l⟩ := den_seq r2 hs
    rw [eb] at l
    have e := l.bls
    subst e
    have ex := den_bl (ea ▸ r1.low)
    subst ex
    refine ⟨p, _, rfl, q, rfl, flat_bls ns, ?_⟩
    show Q (.bl (!inV _ _)) H2
    rw [inV_bls]
    exact k H2 s S2⟩

/-! ### dicts of ints -/
def lookD : List (Int × Int) → Int → Option Int
  | [], _ => none
  | p :: r, i => if p.1 = i then some p.2 else lookD r i
def putD (kvs : List (Int × Int)) (k v : Int) : List (Int × Int) := if (kvs.any fun p => decide (p.1 = k)) = true then kvs.map (fun p => if p.1 = k then (p.1, v) else p) else kvs ++ [(k, v)]
theorem valV_dk {i : Int} : ∀ {kvs : List (Int × Int)}, valV (dkOf kvs) (Sum.inl i : Key) = (lookD kvs i).map V.int
  | [] => rfl
  | p :: r => by
    unfold lookD
    by_cases h : p.1 = i
    · rw [if_pos h]
      exact valV_pos (p := (Sum.inl p.1, V.int p.2)) (by rw [h])
    · rw [if_neg h, ← valV_dk (kvs := r)]
      exact valV_neg (p := (Sum.inl p.1, V.int p.2)) (fun q => h (Sum.inl.inj q))
theorem putK_dk {kvs : List (Int × Int)} {k v : Int} : putK (dkOf kvs) (Sum.inl k : Key) (.int v) = dkOf (putD kvs k v) := by
  have e : ((dkOf kvs).any fun kv => decide (kv.1 = (Sum.inl k : Key))) = kvs.any fun p => decide (p.1 = k) := by
    unfold dkOf
    rw [List.any_map]
    congr 1
    funext p
    show decide ((Sum.inl p.1 : Key) = Sum.inl k) = decide (p.1 = k)
    by_cases h : p.1 = k
    · simp [h]
    · have : ¬ (Sum.inl p.1 : Key) = Sum.inl k := fun q => h (Sum.inl.inj q)
      simp [h]
  unfold putK putD
  rw [e]
  split
  · unfold dkOf
    rw [List.map_map, List.map_map]
    refine List.map_congr_left fun p _ => ?_
    show (if (Sum.inl p.1 : Key) = Sum.inl k then _ else _) = _
    by_cases h : p.1 = k
    · simp [h]
    · have : ¬ (Sum.inl p.1 : Key) = Sum.inl k := fun q => h (Sum.inl.inj q)
      simp [h]
  · unfold dkOf
    rw [List.map_append]
    rfl
theorem ev_dget {kvs : List (Int × Int)} {i v : Int} (hu : X.A.units + 1 < cLine) (ha : Ev X a ρ ra m1 ρ1) (hb : Ev X b ρ1 rb m2 ρ2) (ea : ra.d = .dic kvs) (eb : rb.d = .int i) (ev : lookD kvs i = some v) (st : (ra.st || !m2) = true := by rfl) (hs : NoSl b := by exact fun _ _ => rfl) :
    Ev X (.Subscript a b pos) ρ (.v (.int v)) (m1 || m2) ρ2 := fun B G M O σ H Q S k =>
  ⟨_, pe_dget hu pe_w pe_w hs, two ha hb st S fun x y H2 s S2 r1 r2 => by
    have h := r1.low
    rw [ea] at h
    cases h with
    | dic n e =>
      have hy := den_int (eb ▸ r2)
      subst hy
      refine ⟨_, .int v, rfl, ?_, k _ H2 s S2 (.int _)⟩
      have := DGet.k (H := H2) (k := Sum.inl i) e
      rw [valV_dk, ev] at this
      exact this⟩
theorem ev_dnew : Ev X (.Dict [] [] pos) ρ (.n (.dic [])) false ρ := fun B G M O σ H Q S k =>
  ⟨_, pe_dnewK, fun q hq => k _ _ (Stp.new hq) (S.new hq) ⟨q, rfl, hq, upd_same⟩⟩

/-! ### the owned list changed -/
theorem Sim.put {K : PySem.W.Frag} {B : Base} {G : List (D × V)} {M O : Addr → Prop} {H : Hp} {σ : L2.St} {i : Nat} {f : Bool} {d d' : D} {q : Addr} {o : HO} (S : Sim K B G M O H σ ρ) (hr : ρ[i]? = some (.own f d)) (hq : σ[i]? = some (some (.ref q)))
    (ok : OwnOk K M (upd H q o) q d') : Sim K B G M O (upd H q o) σ (ρ.set i (.own f d')) := by
  obtain ⟨q', e1, e2, e3, e4⟩ := S.own i f d hr
  rw [hq] at e1
  cases e1
  have hM : M q := S.om q e2
  have keep : ∀ a u, ¬ M a → NT u = true → H a = some u → upd H q o a = some u := fun a u n _ e => by
    rw [upd_ne (fun z => n (by rw [z]; exact hM))]; exact e
  have hi : i < ρ.length := (List.getElem?_eq_some_iff.mp hr).1
  obtain ⟨u0, eu0, _, nu0⟩ := e4.nt
  have s0 : Stp true (fun a => a = q) H (upd H q o) := .one rfl eu0 nu0
  refine ⟨by rw [List.length_set]; exact S.len, ⟨fun a u n nt e => ?_, fun a h => s0.d a (S.ext.d a h), fun p h => s0.t p (S.ext.t p h)⟩, S.gd.stp s0, S.m0, S.om, fun a h => ?_, S.on, fun x hx => (S.gh x hx).to (fun _ _ z => z) keep, fun j d e => ?_, fun j b d e => ?_, fun j l b c d e p ej el sj sl => ?_, S.bo⟩
  · rw [upd_ne]
    · exact S.ext.k a u n nt e
    · intro z
      subst z
      rcases S.on a e2 with q | q
      · exact n rfl q
      · rw [q] at e; cases e
  · by_cases z : a = q
    · rw [z, upd_same]; exact fun q => nomatch q
    · rw [upd_ne z]; exact S.mn a h
  · by_cases hj : j = i
    · subst hj; rw [List.getElem?_set_self hi] at e; cases e
    · rw [List.getElem?_set_ne (Ne.symm hj)] at e
      obtain ⟨v, h1, h2⟩ := S.val j d e
      exact ⟨v, h1, h2.to (fun _ _ z => z) keep⟩
  · by_cases hj : j = i
    · subst hj
      rw [List.getElem?_set_self hi] at e
      cases e
      exact ⟨q, hq, e2, e3, ok⟩
    · rw [List.getElem?_set_ne (Ne.symm hj)] at e
      obtain ⟨p, h1, h2, h3, h4⟩ := S.own j b d e
      have hne : p ≠ q := fun z => by
        subst z
        exact hj (S.inj j i b f d _ p e hr h1 hq)
      exact ⟨p, h1, h2, h3, h4.to (fun _ _ z => z) keep (upd_ne hne)⟩
  · have tr : ∀ {j : Nat} {b : Bool} {d : D}, (ρ.set i (.own f d'))[j]? = some (.own b d) → ∃ b2 d2, ρ[j]? = some (.own b2 d2) := fun {j b d} e => by
      by_cases hj : j = i
      · subst hj; exact ⟨_, _, hr⟩
      · rw [List.getElem?_set_ne (Ne.symm hj)] at e; exact ⟨_, _, e⟩
    obtain ⟨b1, d1, g1⟩ := tr ej
    obtain ⟨b2, d2, g2⟩ := tr el
    exact S.inj j l _ _ _ _ p g1 g2 sj sl
theorem Stp.put {m : Bool} {O : Addr → Prop} {H H1 : Hp} {q : Addr} {o : HO} (s : Stp m O H H1) (hO : O q) {u : HO} (e : H1 q = some u) (n : NE u = true) : Stp true O H (upd H1 q o) := by
  have := s.up.trans (Stp.one (o := o) hO e n)
  exact this
/-- x.pop() of an owned list of ints -/
theorem ev_pop (i : Nat) {f : Bool} {ns : List Int} {n : Int} {pos' : Pos} (hr : ρ[i]? = some (.own f (.lst ((ns ++ [n]).map .int)))) (hN : X.N[i]? = some x := by rfl) (hv : Vis X.env.scope x := by first | exact Or.inl rfl | exact Or.inr (Or.inl rfl) | exact Or.inr (Or.inr rfl))
    (hbase : attributeBase (.Name x p) "pop" X.env (eval (.Name x p) X.env) = eval (.Name x p) X.env := by rfl) (hline : (pos'.endLine == pos.line) = true := by rfl) (hd : (x == ("__debug__" : Str)) = false := by decide) (hcd : (x == ("__classdict__" : Str)) = false := by decide) :
    Ev X (.Call (.Attribute (.Name x p) "pop" pos') [] [] pos) ρ (.v (.int n)) true (ρ.set i (.own f (.lst (ns.map .int)))) := fun B G M O σ H Q S k => by
  obtain ⟨q, e1, e2, e3, z, vs, e4, l⟩ := S.own i f _ hr
  have ev := l.ints
  subst ev
  refine ⟨_, pe_bm0 PySem.F.plainAttrs_list PySem.F.slot_list_pop PySem.F.type_list_pop mt_pop (pe_var hN hv hd hcd) hbase hline, .ref q, e1, .inl ⟨rfl, _, .inl (.inl e4)⟩, q, _, .int n, rfl, rfl, e4, ?_, ?_⟩
  · simp
  · refine k _ _ (Stp.put (Stp.refl (m := false)) e2 e4 rfl) (S.put hr e1 ?_) (.int n)
    have ed : ((ns ++ [n]).map V.int).dropLast = ns.map V.int := by simp
    rw [ed]
    refine ⟨?_, _, upd_same, DenL.ofInts ns⟩
    rw [List.length_map] at z ⊢
    rw [List.length_append] at z
    omega
end
end N50
/-! text Ev4 -/
set_option maxHeartbeats 4000000
namespace N50
open PySem PySem.Spec PyProof.Rows L2

/-! ### targets -/
def setAll : L2.St → List Nat → List V → L2.St
  | σ, j :: js, v :: vs => setAll (σ.set j (some v)) js vs
  | σ, _, _ => σ
def wGs (X : Cx) (es : List Expr) : TGs := fun vs σ H Q => ∃ t, PGs X es t ∧ t vs σ H Q
theorem pgs_w {X : Cx} {es : List Expr} : PGs X es (wGs X es) := ⟨fun p s σ H vs us Q I r ⟨_, h, q⟩ => h.run p s σ H vs us Q I r q⟩
def EvG (X : Cx) (tg : Expr) (d : D) (js : List Nat) (ρ ρ' : En) : Prop :=
  ∀ (B : Base) (G : List (D × V)) (M O : Addr → Prop) (σ : L2.St) (H : Hp) (v : V) (Q : L2.St → Hp → Prop), Sim X.K B G M O H σ ρ → Den X.K M H d v →
    (∀ vs, Sim X.K B G M O H (setAll σ js vs) ρ' → Q (setAll σ js vs) H) → wG X tg v σ H Q
def EvGs (X : Cx) (es : List Expr) (ds : List D) (js : List Nat) (ρ ρ' : En) : Prop :=
  ∀ (B : Base) (G : List (D × V)) (M O : Addr → Prop) (σ : L2.St) (H : Hp) (us : List V) (Q : L2.St → Hp → Prop), Sim X.K B G M O H σ ρ → DenL X.K M H ds us →
    (∀ vs, Sim X.K B G M O H (setAll σ js vs) ρ' → Q (setAll σ js vs) H) → wGs X es us σ H Q
/-- data into a slot -/
theorem Sim.setV {K : PySem.W.Frag} {B : Base} {G : List (D × V)} {M O : Addr → Prop} {H : Hp} {σ : L2.St} {ρ : En} {d : D} {v : V} (S : Sim K B G M O H σ ρ) (h : Den K M H d v) (i : Nat) : Sim K B G M O H (σ.set i (some v)) (ρ.set i (.val d)) := by
  have hlen := S.len
  refine ⟨by rw [List.length_set, List.length_set]; exact S.len, S.ext, S.gd, S.m0, S.om, S.mn, S.on, S.gh, fun j e hj => ?_, fun j b e hj => ?_, fun j l b c e f p ej el sj sl => ?_, S.bo⟩
  · by_cases z : j = i
    · subst z
      by_cases hl : j < ρ.length
      · rw [List.getElem?_set_self hl] at hj
        cases hj
        exact ⟨v, List.getElem?_set_self (by omega), h⟩
      · rw [List.getElem?_eq_none (by rw [List.length_set]; omega)] at hj; cases hj
    · rw [List.getElem?_set_ne (Ne.symm z)] at hj ⊢
      exact S.val j e hj
  · by_cases z : j = i
    · subst z
      by_cases hl : j < ρ.length
      · rw [List.getElem?_set_self hl] at hj; cases hj
      · rw [List.getElem?_eq_none (by rw [List.length_set]; omega)] at hj; cases hj
    · rw [List.getElem?_set_ne (Ne.symm z)] at hj ⊢
      exact S.own j b e hj
  · have ne : ∀ {j : Nat} {b : Bool} {e : D}, (ρ.set i (.val d))[j]? = some (.own b e) → j ≠ i := fun {j b e} hj z => by
      subst z
      by_cases hl : j < ρ.length
      · rw [List.getElem?_set_self hl] at hj; cases hj
      · rw [List.getElem?_eq_none (by rw [List.length_set]; omega)] at hj; cases hj
    have n1 := ne ej
    have n2 := ne el
    rw [List.getElem?_set_ne (Ne.symm n1)] at ej sj
    rw [List.getElem?_set_ne (Ne.symm n2)] at el sl
    exact S.inj j l b c e f p ej el sj sl
section
variable {X : Cx} {a b c e tg iter elt : Expr} {es ifs : List Expr} {ρ ρ0 ρ1 ρ2 ρ3 : En} {m m1 m2 m3 : Bool} {pos p p2 : Pos} {x : Str} {rs : List RK} {r ra rb : RK} {d : D} {ds : List D} {js : List Nat}
theorem eg_n (i : Nat) (hN : X.N.Nodup) (hi : X.N[i]? = some x := by rfl) (hx : Loc X.env.scope x := by first | exact Or.inl rfl | exact Or.inr rfl) (hf : X.fn x = true ∨ X.env.scope.names.lookup x = some .local := by first | exact Or.inl rfl | exact Or.inr rfl) : EvG X (.Name x pos) d [i] ρ (ρ.set i (.val d)) := fun B G M O σ H v Q S h k =>
  ⟨_, pg_name hN hi hx hf, k [v] (S.setV h i)⟩
theorem egs_nil : EvGs X [] [] [] ρ ρ := fun B G M O σ H us Q S h k => by
  cases h
  exact ⟨_, pgs_nil, rfl, k [] S⟩
theorem egs_n (i : Nat) (hN : X.N.Nodup) (hr : EvGs X es ds js (ρ.set i (.val d)) ρ1) (hi : X.N[i]? = some x := by rfl) (hx : Loc X.env.scope x := by first | exact Or.inl rfl | exact Or.inr rfl) (hf : X.fn x = true ∨ X.env.scope.names.lookup x = some .local := by first | exact Or.inl rfl | exact Or.inr rfl)
    (hs : (assignEach (.Name x pos :: es) X.env).map (·.2) = assign (.Name x pos) X.env :: (assignEach es X.env).map (·.2) := by rfl) : EvGs X (.Name x pos :: es) (d :: ds) (i :: js) ρ ρ1 := fun B G M O σ H us Q S h k => by
  cases h with
  | cons h t =>
    refine ⟨_, pgs_cons (pg_name hN hi hx hf) pgs_w hs, _, _, rfl, ?_⟩
    exact hr B G M O _ H _ Q (S.setV h i) t fun vs S' => k (_ :: vs) S'
theorem eg_t {j : Nat} (h : EvGs X es ds js ρ ρ1) (hn : (assignEach es X.env).length = ds.length := by rfl) (hst : (assignEach es X.env).findIdx? (·.1) = none := by rfl) (hc : X.calm = true := by rfl) : EvG X (.Tuple es j pos) (.tup ds) js ρ ρ1 := fun B G M O σ H v Q S hd k => by
  obtain ⟨q, vs, rfl, e, l, z, n⟩ := den_tup hd
  exact ⟨_, pg_tup hc pgs_w hn hst, q, vs, rfl, (.inl e), l.length.symm, h B G M O σ H vs Q S l k⟩

/-! ### what is walked -/
/-- the turns from a heap on: ds, in order, where C holds of the heap -/
def TurnOk (K : PySem.W.Frag) (J : It) (ds : List D) (M : Addr → Prop) (H : Hp) : Prop :=
  (∀ (i : Nat) (d : D), ds[i]? = some d → J.go i H ∧ ∀ x H', J.yld i H x H' → Stp false (fun _ => False) H H' ∧ Den K M H' d x) ∧ J.stop ds.length H
def Gs (K : PySem.W.Frag) (J : It) (ds : List D) (Γ : List (D × V)) : Prop :=
  ∀ (M : Addr → Prop) (H : Hp), (∀ a, M a → H a ≠ none) → (∀ x ∈ Γ, Den K M H x.1 x.2) → TurnOk K J ds M H
def EvI (X : Cx) (tg it : Expr) (ρ : En) (ds : List D) (m : Bool) (ρ' : En) : Prop :=
  ∀ (B : Base) (G : List (D × V)) (M O : Addr → Prop) (σ : L2.St) (H : Hp) (R : It → Hp → Prop), Sim X.K B G M O H σ ρ →
    (∀ J H' Γ, Stp m O H H' → Sim X.K B G M O H' σ ρ' → (∀ x ∈ Γ, Den X.K M H' x.1 x.2) → ds.length ≤ sizeLine → Gs X.K J ds Γ → R J H') → wI X tg it σ H R
/-- .. where nothing but new objects comes -/
def EvP (X : Cx) (tg it : Expr) (ρ : En) (ds : List D) (m : Bool) (ρ' : En) : Prop :=
  ∀ (B : Base) (G : List (D × V)) (M O : Addr → Prop) (σ : L2.St) (H : Hp) (R : It → Hp → Prop), Sim X.K B G M O H σ ρ →
    (∀ J H', Stp m O H H' → Sim X.K B G M O H' σ ρ' → ds.length ≤ sizeLine → (∀ (M2 : Addr → Prop) (H2 : Hp), (∀ a, M2 a → M a ∨ H' a = none) → (∀ a, M2 a → H2 a ≠ none) → Stp false O H' H2 → TurnOk X.K J ds M2 H2) → R J H') → wI X tg it σ H R
theorem EvI.pure (h : EvI X tg iter ρ ds m ρ1) : EvP X tg iter ρ ds m ρ1 := fun B G M O σ H R S k =>
  h B G M O σ H R S fun J H' Γ s S' g hz hG => k J H' s S' hz fun M2 H2 hM mn s2 => hG M2 H2 mn fun x hx => (g x hx).to (fun a q z => by
    rcases hM a z with z | z
    · exact z
    · exact absurd z q) fun a o _ nt e => s2.at nt e
theorem denL_at {K : PySem.W.Frag} {M : Addr → Prop} {H : Hp} {vs : List V} (l : DenL K M H ds vs) {i : Nat} (h : ds[i]? = some d) : ∃ v, vs[i]? = some v ∧ Den K M H d v := l.get h
theorem turn_L {K : PySem.W.Frag} {M : Addr → Prop} {H : Hp} {q : Addr} {vs : List V} (hq : SqL K H q vs) (l : DenL K M H ds vs) (uniq : ∀ ws, SqL K H q ws → ws = vs → True) : TurnOk K (Itl K q) ds M H := by
  refine ⟨fun i d h => ?_, ⟨vs, hq, by rw [← l.length]; exact Nat.le_refl _⟩⟩
  obtain ⟨v, e, dv⟩ := l.get h
  refine ⟨⟨vs, v, hq, e⟩, fun x H' hy => ?_⟩
  obtain ⟨rfl, hy⟩ := hy
  have : x = v := Option.some.inj ((hy vs hq).symm.trans e)
  subst this
  exact ⟨Stp.refl, dv⟩
theorem turn_T {K : PySem.W.Frag} {M : Addr → Prop} {H : Hp} {q : Addr} {vs : List V} (hq : SqT K H q vs) (l : DenL K M H ds vs) : TurnOk K (Itt K q) ds M H := by
  refine ⟨fun i d h => ?_, ⟨vs, hq, by rw [← l.length]; exact Nat.le_refl _⟩⟩
  obtain ⟨v, e, dv⟩ := l.get h
  refine ⟨⟨vs, v, hq, e⟩, fun x H' hy => ?_⟩
  obtain ⟨rfl, hy⟩ := hy
  have : x = v := Option.some.inj ((hy vs hq).symm.trans e)
  subst this
  exact ⟨Stp.refl, dv⟩
/-- a list or tuple that keeps -/
theorem ei_seq (h : Ev X a ρ r m ρ1) (hs : r.d.seq = true := by rfl) (st : r.st = true := by rfl) : EvI X tg a ρ r.d.its m ρ1 := fun B G M O σ H R S k => by
  by_cases ht : ∃ us, r.d = .tup us
  · refine ⟨_, pi_tup pe_w, h B G M O σ H _ S fun v H1 s S1 r1 => ?_⟩
    have hd := r1.den st S.mn
    obtain ⟨us, et⟩ := ht
    have hd2 := hd
    rw [et] at hd2
    obtain ⟨q, vs, rfl, e, l, z, n⟩ := den_tup hd2
    refine ⟨q, rfl, ⟨vs, (.inl e)⟩, k _ H1 [(r.d, .ref q)] s S1 (fun x hx => by
      have : x = (r.d, .ref q) := by simpa using hx
      rw [this]; exact hd) (den_sz hd hs) fun M2 H2 mn2 hg => ?_⟩
    have g := hg (r.d, .ref q) (by simp)
    rw [et] at g ⊢
    obtain ⟨q', vs', e0, e', l', z', n'⟩ := den_tup g
    cases e0
    exact turn_T ((.inl e')) l'
  · refine ⟨_, pi_list pe_w, h B G M O σ H _ S fun v H1 s S1 r1 => ?_⟩
    have hd := r1.den st S.mn
    have key : ∀ {N : Addr → Prop} {H : Hp} {w : V}, Den X.K N H r.d w → ∃ q us, w = .ref q ∧ SqL X.K H q us ∧ DenL X.K N H r.d.its us := fun g => by
      rcases den_lt g hs with g | ⟨_, _, _, _, et⟩
      · exact g
      · exact absurd ⟨_, et⟩ ht
    obtain ⟨q, vs, rfl, hq, l⟩ := key hd
    refine ⟨q, rfl, ⟨vs, hq⟩, k _ H1 [(r.d, .ref q)] s S1 (fun x hx => by
      have : x = (r.d, .ref q) := by simpa using hx
      rw [this]; exact hd) (den_sz hd hs) fun M2 H2 mn2 hg => ?_⟩
    obtain ⟨q', us', e0, e', l'⟩ := key (hg (r.d, .ref q) (by simp))
    cases e0
    exact turn_L e' l' (fun _ _ _ => trivial)
/-- an owned list of ints, walked while nothing is changed -/
theorem ep_own {ns : List Int} (h : Ev X a ρ r m ρ1) (e : r.d = .lst (ns.map .int)) : EvP X tg a ρ (ns.map .int) m ρ1 := fun B G M O σ H R S k => by
  refine ⟨_, pi_list pe_w, h B G M O σ H _ S fun v H1 s S1 r1 => ?_⟩
  have hd := r1.low
  rw [e] at hd
  obtain ⟨q, vs, rfl, e1, l, z, n⟩ := den_lst hd
  have ev := l.ints
  subst ev
  refine ⟨q, rfl, ⟨_, .inl (.inl e1)⟩, k _ H1 s S1 z fun M2 H2 hM mn s2 => ?_⟩
  exact turn_L (.inl (.inl (s2.at rfl e1))) (DenL.ofInts ns) (fun _ _ _ => trivial)
theorem turn_R {K : PySem.W.Frag} {M : Addr → Prop} {H : Hp} (n : Nat) : TurnOk K (Itr 0 n) ((List.range n).map fun i => D.int (i : Nat)) M H := by
  refine ⟨fun i d h => ?_, by rw [List.length_map, List.length_range]; exact Nat.le_refl n⟩
  rw [List.getElem?_map] at h
  have hi : i < n := by
    cases e : (List.range n)[i]? with
    | none => rw [e] at h; cases h
    | some z =>
      have := (List.getElem?_eq_some_iff.mp e).1
      rwa [List.length_range] at this
  rw [List.getElem?_range hi] at h
  cases h
  refine ⟨hi, fun x H' hy => ?_⟩
  obtain ⟨rfl, hy⟩ := hy
  refine ⟨Stp.refl, ?_⟩
  have : x = .int (i : Nat) := by rw [hy, Int.zero_add]
  rw [this]
  exact .int _
/-- range(n) -/
theorem ei_range {n : Nat} (h : Ev X a ρ r m ρ1) (e : r.d = .int (n : Nat)) (hz : n ≤ 1000000) (hm : X.mg "range" = none) (hg : Gl X "range" := by rfl) (he : starEach [a] X.env = (false, eval a X.env) :: starEach [] X.env := by rfl) (hs : starEach [a] X.env = [(false, eval a X.env)] := by rfl) :
    EvI X tg (.Call (.Name "range" p) [a] [] pos) ρ ((List.range n).map fun i => D.int (i : Nat)) m ρ1 := fun B G M O σ H R S k =>
  ⟨_, pi_range1 hg hm (pa_cons pe_w pa_nil he) hs, h B G M O σ H _ S fun v H1 s S1 r1 => by
    refine ⟨(n : Nat), ?_, by omega, by omega, k _ H1 [] s S1 (fun x hx => by simp at hx) (by rw [List.length_map, List.length_range, sizeLine_eq]; omega) fun M2 H2 _ _ => ?_⟩
    · have q := r1.low
      rw [e] at q
      rw [den_int q]
    · show TurnOk X.K (Itr 0 ((n : Nat) : Int).toNat) _ M2 H2
      rw [Int.toNat_natCast]
      exact turn_R n⟩
/-! ### comprehensions -/
/-- a clause's tests -/
def EvTs (X : Cx) (es : List Expr) (ρ : En) (b : Bool) : Prop :=
  ∀ (B : Base) (G : List (D × V)) (M O : Addr → Prop) (σ : L2.St) (H : Hp) (Q : Bool → Hp → Prop), Sim X.K B G M O H σ ρ →
    (∀ H', Stp false O H H' → Sim X.K B G M O H' σ ρ → Q b H') → wTs X es σ H Q
theorem ets_nil : EvTs X [] ρ true := fun B G M O σ H Q S k => ⟨_, pts_nil, k H Stp.refl S⟩
theorem ets_one {c : Bool} (h : EvT X e ρ c false ρ) : EvTs X [e] ρ c := fun B G M O σ H Q S k => ⟨_, pts_one pt_w, h B G M O σ H Q S k⟩
def wipeE (ρ : En) : List Nat → En
  | [] => ρ
  | v :: vs => (wipeE ρ vs).set v .no
theorem Sim.setN {K : PySem.W.Frag} {B : Base} {G : List (D × V)} {M O : Addr → Prop} {H : Hp} {σ : L2.St} {ρ : En} (S : Sim K B G M O H σ ρ) (i : Nat) : Sim K B G M O H (σ.set i none) (ρ.set i .no) := by
  have hlen := S.len
  have ne : ∀ {j : Nat} {s : Sl}, (ρ.set i .no)[j]? = some s → s ≠ .no → j ≠ i := fun {j s} hj hs z => by
    subst z
    by_cases hl : j < ρ.length
    · rw [List.getElem?_set_self hl] at hj; cases hj; exact hs rfl
    · rw [List.getElem?_eq_none (by rw [List.length_set]; omega)] at hj; cases hj
  refine ⟨by rw [List.length_set, List.length_set]; exact S.len, S.ext, S.gd, S.m0, S.om, S.mn, S.on, S.gh, fun j e hj => ?_, fun j b e hj => ?_, fun j l b c e f p ej el sj sl => ?_, S.bo⟩
  · have n := ne hj (fun q => nomatch q)
    rw [List.getElem?_set_ne (Ne.symm n)] at hj ⊢
    exact S.val j e hj
  · have n := ne hj (fun q => nomatch q)
    rw [List.getElem?_set_ne (Ne.symm n)] at hj ⊢
    exact S.own j b e hj
  · have n1 := ne ej (fun q => nomatch q)
    have n2 := ne el (fun q => nomatch q)
    rw [List.getElem?_set_ne (Ne.symm n1)] at ej sj
    rw [List.getElem?_set_ne (Ne.symm n2)] at el sl
    exact S.inj j l b c e f p ej el sj sl
theorem Sim.wipe {K : PySem.W.Frag} {B : Base} {G : List (D × V)} {M O : Addr → Prop} {H : Hp} {σ : L2.St} {ρ : En} (S : Sim K B G M O H σ ρ) : ∀ vs : List Nat, Sim K B G M O H (L2.wipe σ vs) (wipeE ρ vs)
  | [] => S
  | v :: vs => (S.wipe vs).setN v
/-- one more hidden object, ghosts -/
theorem Sim.hide {K : PySem.W.Frag} {B : Base} {G : List (D × V)} {M O : Addr → Prop} {H : Hp} {σ : L2.St} {ρ : En} {q : Addr} {o : HO} (S : Sim K B G M O H σ ρ) (n : H q = none) : Sim K B G (fun a => M a ∨ a = q) O (upd H q o) σ ρ := by
  have S2 := S.new (o := o) n
  refine ⟨S2.len, S2.ext, S2.gd, fun a h => .inl (S2.m0 a h), fun a h => .inl (S2.om a h), fun a h => ?_, S2.on, fun x hx => ((S.gh x hx).off n).grow n, fun i d e => ?_, fun i b d e => ?_, S2.inj, S2.bo⟩
  · rcases h with h | h
    · exact S2.mn a h
    · rw [h, upd_same]; exact fun q => nomatch q
  · obtain ⟨v, h1, h2⟩ := S.val i d e
    exact ⟨v, h1, (h2.off n).grow n⟩
  · obtain ⟨p, h1, h2, h3, h4⟩ := S.own i b d e
    obtain ⟨u, eu⟩ := h4.some
    refine ⟨p, h1, h2, h3, h4.to (fun a q z => ?_) (fun a u _ _ e => ?_) (upd_ne (ne_of_none eu n))⟩
    · rcases z with z | z
      · exact z
      · rw [z, n] at q; exact absurd rfl q
    · rw [upd_ne (ne_of_none e n)]; exact e
/-- the hidden list grows -/
theorem Sim.hid {K : PySem.W.Frag} {B : Base} {G : List (D × V)} {M O : Addr → Prop} {H : Hp} {σ : L2.St} {ρ : En} {q : Addr} {o : HO} {xs0 : List V} (eq : H q = some (.lst xs0)) (S : Sim K B G (fun a => M a ∨ a = q) O H σ ρ) (nO : ¬ O q) (nB : ¬ B.M q ∧ B.H q = none) : Sim K B G (fun a => M a ∨ a = q) O (upd H q o) σ ρ := by
  have keep : ∀ a u, ¬ (M a ∨ a = q) → NT u = true → H a = some u → upd H q o a = some u := fun a u n _ e => by rw [upd_ne (fun z => n (.inr z))]; exact e
  have s0 : Stp true (fun a => a = q) H (upd H q o) := .one rfl eq rfl
  refine ⟨S.len, ⟨fun a u n nt e => ?_, fun a h => s0.d a (S.ext.d a h), fun p h => s0.t p (S.ext.t p h)⟩, S.gd.stp s0, S.m0, S.om, fun a h => ?_, S.on, fun x hx => (S.gh x hx).to (fun _ _ z => z) keep, fun i d e => ?_, fun i b d e => ?_, S.inj, S.bo⟩
  · have : a ≠ q := fun z => by rw [z, nB.2] at e; cases e
    rw [upd_ne this]; exact S.ext.k a u n nt e
  · by_cases z : a = q
    · rw [z, upd_same]; exact fun q => nomatch q
    · rw [upd_ne z]; exact S.mn a h
  · obtain ⟨v, h1, h2⟩ := S.val i d e
    exact ⟨v, h1, h2.to (fun _ _ z => z) keep⟩
  · obtain ⟨p, h1, h2, h3, h4⟩ := S.own i b d e
    exact ⟨p, h1, h2, h3, h4.to (fun _ _ z => z) keep (upd_ne (fun z => nO (by rw [← z]; exact h2)))⟩
theorem wipe_same : ∀ {vs : List Nat} {σ : L2.St}, L2.wipe (L2.wipe σ vs) vs = L2.wipe σ vs := by
  have h : ∀ (vs : List Nat) (σ : L2.St) (j : Nat), (L2.wipe σ vs)[j]? = if j ∈ vs ∧ j < σ.length then some none else σ[j]? := by
    intro vs
    induction vs with
    | nil => intro σ j; simp [L2.wipe]
    | cons v vs ih =>
      intro σ j
      unfold L2.wipe
      by_cases hv : j = v
      · subst hv
        by_cases hl : j < σ.length
        · rw [List.getElem?_set_self (by rw [wipe_length]; exact hl)]; simp [hl]
        · rw [List.getElem?_eq_none (by rw [List.length_set, wipe_length]; omega)]
          simp [hl]
      · rw [List.getElem?_set_ne (Ne.symm hv), ih]
        simp [hv]
  intro vs σ
  apply List.ext_getElem?
  intro j
  rw [h, h, wipe_length]
  by_cases hj : j ∈ vs ∧ j < σ.length <;> simp [hj]
theorem wipe_set {vs : List Nat} {σ τ : L2.St} {j : Nat} {v : V} (hj : j ∈ vs) (h : L2.wipe τ vs = L2.wipe σ vs) : L2.wipe (τ.set j (some v)) vs = L2.wipe σ vs := by
  have hg : ∀ (vs : List Nat) (σ : L2.St) (j : Nat), (L2.wipe σ vs)[j]? = if j ∈ vs ∧ j < σ.length then some none else σ[j]? := by
    intro vs
    induction vs with
    | nil => intro σ j; simp [L2.wipe]
    | cons v vs ih =>
      intro σ j
      unfold L2.wipe
      by_cases hv : j = v
      · subst hv
        by_cases hl : j < σ.length
        · rw [List.getElem?_set_self (by rw [wipe_length]; exact hl)]; simp [hl]
        · rw [List.getElem?_eq_none (by rw [List.length_set, wipe_length]; omega)]
          simp [hl]
      · rw [List.getElem?_set_ne (Ne.symm hv), ih]
        simp [hv]
  rw [← h]
  apply List.ext_getElem?
  intro i
  rw [hg, hg, List.length_set]
  by_cases hi : i ∈ vs ∧ i < τ.length
  · simp [hi]
  · simp only [hi, if_false]
    by_cases e : i = j
    · subst e
      have : ¬ i < τ.length := fun z => hi ⟨hj, z⟩
      rw [List.getElem?_eq_none (by rw [List.length_set]; omega), List.getElem?_eq_none (by omega)]
    · rw [List.getElem?_set_ne (Ne.symm e)]
theorem wipe_setAll {vs : List Nat} {σ : L2.St} : ∀ {js : List Nat} {us : List V} {τ : L2.St}, (∀ j ∈ js, j ∈ vs) → L2.wipe τ vs = L2.wipe σ vs → L2.wipe (setAll τ js us) vs = L2.wipe σ vs
  | [], us, τ, _, h => by unfold setAll; exact h
  | j :: js, [], τ, _, h => by unfold setAll; exact h
  | j :: js, u :: us, τ, hj, h => by
    unfold setAll
    exact wipe_setAll (fun i hi => hj i (List.mem_cons_of_mem _ hi)) (wipe_set (hj j List.mem_cons_self) h)
/-- the context of a comprehension's block -/
abbrev Bk (X : Cx) (scope : Scope) (s : Shared) (H : Hp) (C : Addr) (cl : List (Str × Addr)) (fp : List Addr) : Cx := X.blk s H scope (compEnvC scope cl C X.env) fp
theorem filt_snoc {α β : Type} (f : α → Bool) (y : α → β) (xs : List α) (i : Nat) (x : α) (h : xs[i]? = some x) : ((xs.take (i + 1)).filter f).map y = ((xs.take i).filter f).map y ++ (if f x = true then [y x] else []) := by
  rw [List.take_add_one, h, List.filter_append, List.map_append]
  congr 1
  by_cases hf : f x = true
  · simp [hf]
  · simp [hf]
/-- the readings of a block, for every context that it may run in -/
def bG (X : Cx) (scope : Scope) (tg : Expr) : TG := fun v σ H Q => ∀ s H' C cl fp, wG (Bk X scope s H' C cl fp) tg v σ H Q
def bTs (X : Cx) (scope : Scope) (ifs : List Expr) : TT := fun σ H Q => ∀ s H' C cl fp, wTs (Bk X scope s H' C cl fp) ifs σ H Q
def bE (X : Cx) (scope : Scope) (elt : Expr) : TE := fun σ H Q => ∀ s H' C cl fp, wE (Bk X scope s H' C cl fp) elt σ H Q
def bI (X : Cx) (scope : Scope) (tg it : Expr) : TI := fun σ H Q => ∀ s H' C cl fp, wI (Bk X scope s H' C cl fp) tg it σ H Q
theorem pg_b {scope : Scope} (s : Shared) (H : Hp) (C : Addr) (cl : List (Str × Addr)) (fp : List Addr) : PG (X.blk s H scope (compEnvC scope cl C X.env) fp) tg (bG X scope tg) := ⟨fun ps s' σ H' v u Q I r h => pg_w.run ps s' σ H' v u Q I r (h s H C cl fp)⟩
theorem pts_b {scope : Scope} (s : Shared) (H : Hp) (C : Addr) (cl : List (Str × Addr)) (fp : List Addr) : PTs (X.blk s H scope (compEnvC scope cl C X.env) fp) ifs (bTs X scope ifs) := ⟨fun ps s' σ H' Q I h => pts_w.run ps s' σ H' Q I (h s H C cl fp)⟩
theorem pe_b {scope : Scope} (s : Shared) (H : Hp) (C : Addr) (cl : List (Str × Addr)) (fp : List Addr) : PE (X.blk s H scope (compEnvC scope cl C X.env) fp) elt (bE X scope elt) := ⟨fun ps s' σ H' Q I h => pe_w.run ps s' σ H' Q I (h s H C cl fp)⟩
theorem pi_b {scope : Scope} (s : Shared) (H : Hp) (C : Addr) (cl : List (Str × Addr)) (fp : List Addr) : PI (X.blk s H scope (compEnvC scope cl C X.env) fp) tg iter (bI X scope tg iter) := ⟨fun ps s' σ H' R I h => pi_w.run ps s' σ H' R I (h s H C cl fp)⟩
/-- one turn's worth: what a comprehension's block does with an item -/
def LcStep {α : Type} (X : Cx) (scope : Scope) (vs js : List Nat) (tg elt : Expr) (ifs : List Expr) (ρ0 : En) (enc : α → D) (f : α → Bool) (y : α → D) (x : α) : Prop :=
  ∃ ρ1 : En, (∀ s H C cl fp, EvG (Bk X scope s H C cl fp) tg (enc x) js (wipeE ρ0 vs) ρ1) ∧ (∀ s H C cl fp, EvTs (Bk X scope s H C cl fp) ifs ρ1 (f x)) ∧
      (f x = true → ∃ r : RK, (∀ s H C cl fp, Ev (Bk X scope s H C cl fp) elt ρ1 r false ρ1) ∧ r.st = true ∧ r.d = y x)
/-- [elt for tg in iter if ..], nothing changed but new objects: its reading -/
theorem lc_core50 {α : Type} {xs : List α} {enc : α → D} {f : α → Bool} {y : α → D} {scope : Scope} {vs : List Nat} (hi : EvP X tg iter ρ (xs.map enc) m ρ0)
    (sub : ∀ j ∈ js, j ∈ vs) (step : ∀ x ∈ xs, LcStep X scope vs js tg elt ifs ρ0 enc f y x)
    (B : Base) (G : List (D × V)) (M O : Addr → Prop) (σ : L2.St) (H : Hp) (Q : VK) (S : Sim X.K B G M O H σ ρ)
    (k : ∀ v H', Stp m O H H' → Sim X.K B G M O H' σ ρ0 → ResOk X.K M H H' (.n (.lst ((xs.filter f).map y))) v → Q v H') : tLc (wI X tg iter) (bG X scope tg) (bTs X scope ifs) (bE X scope elt) vs σ H Q := by
  refine hi B G M O σ H _ S fun J H1 s1 S1 hz hT => fun q hq => ?_
  rw [List.length_map] at hz
  have nO : ¬ O q := fun z => S1.mn q (S1.om q z) hq
  have nB : ¬ B.M q ∧ B.H q = none := ⟨fun z => S1.mn q (S1.m0 q z) hq, S1.ext.no hq⟩
  -- what holds ahead of turn i
  let P : Nat → Hp → Prop := fun i H' => i ≤ xs.length ∧ Stp false O H1 H' ∧ Sim X.K B G (fun a => M a ∨ a = q) O H' σ ρ0 ∧ ∃ acc, H' q = some (.lst acc) ∧ acc.length ≤ i ∧ DenL X.K (fun a => M a ∨ a = q) H' (((xs.take i).filter f).map y) acc
  have lenW : ∀ i, i ≤ xs.length → (((xs.take i).filter f).map y).length ≤ i := fun i hi => by
    rw [List.length_map]
    refine Nat.le_trans (List.length_filter_le _ _) ?_
    rw [List.length_take]
    omega
  refine ⟨fun i n H' => P i H' ∧ n = xs.length - i, ⟨xs.length, ⟨Nat.zero_le _, Stp.new hq, S1.hide hq, [], upd_same, Nat.zero_le _, by simp; exact .nil⟩, by omega⟩, fun i n H' hP => ?_⟩
  obtain ⟨⟨hi', s2, S2, acc, ea, la, dl⟩, hn⟩ := hP
  have T := hT (fun a => M a ∨ a = q) H' (fun a h => h.imp id fun z => by rw [z]; exact hq) S2.mn s2
  by_cases hil : i < xs.length
  · obtain ⟨x, hx⟩ : ∃ x, xs[i]? = some x := ⟨xs[i], List.getElem?_eq_getElem hil⟩
    have hxm : x ∈ xs := List.mem_of_getElem? hx
    obtain ⟨go, yl⟩ := T.1 i (enc x) (by rw [List.getElem?_map, hx]; rfl)
    refine .inr ⟨go, fun H' => P (i + 1) H', fun H2 h => ⟨xs.length - (i + 1), by omega, h, rfl⟩, fun v H2 hy => ?_⟩
    obtain ⟨s3, dv⟩ := yl v H2 hy
    have s3' : Stp false O H' H2 := s3.of
    have S3 := S2.stp s3'
    obtain ⟨ρ1, eg, et, ee⟩ := step x hxm
    have q2 : H2 q = some (.lst acc) := s3.at rfl ea
    have dl2 : DenL X.K (fun a => M a ∨ a = q) H2 (((xs.take i).filter f).map y) acc := dl.to (fun _ _ z => z) fun a o _ nt e => s3.at nt e
    intro s' H'' C cl fp
    refine eg s' H'' C cl fp B G _ O _ H2 v _ (S3.wipe _) dv fun us S4 => ⟨wipe_setAll sub wipe_same, ?_⟩
    intro s' H'' C cl fp
    refine et s' H'' C cl fp B G _ O _ H2 _ S4 fun H3 s5 S5 => ?_
    have s23 : Stp false O H1 H3 := (s2.trans s3').trans s5
    have q3 : H3 q = some (.lst acc) := s5.at rfl q2
    have dl3 : DenL X.K (fun a => M a ∨ a = q) H3 (((xs.take i).filter f).map y) acc := dl2.to (fun _ _ z => z) fun a o _ nt e => s5.at nt e
    have eq := filt_snoc f y xs i x hx
    cases hf : f x with
    | true =>
      rw [hf] at eq
      obtain ⟨r, er, st, ey⟩ := ee hf
      show ∀ s H' C cl fp, wE _ _ _ _ _
      intro s' H'' C cl fp
      refine er s' H'' C cl fp B G _ O _ H3 _ S5 fun w H4 s6 S6 rw_ => ?_
      have q4 : H4 q = some (.lst acc) := s6.at rfl q3
      have dl4 : DenL X.K (fun a => M a ∨ a = q) H4 (((xs.take i).filter f).map y) acc := dl3.to (fun _ _ z => z) fun a o _ nt e => s6.at nt e
      have dw := rw_.den st S5.mn
      rw [ey] at dw
      have dn : DenL X.K (fun a => M a ∨ a = q) H4 (((xs.take (i + 1)).filter f).map y) (acc ++ [w]) := by
        rw [eq]
        exact dl4.append (.cons dw .nil)
      have s24 : Stp false O H1 H4 := s23.trans s6
      refine ⟨acc, q4, by omega, hil, ⟨fun a o n nt e => ?_, fun a h => ?_, fun p h => TabQ.put (s24.t p h) q4 rfl⟩, ?_, acc ++ [w], upd_same, ?_, ?_⟩
      · have na : a ≠ q := fun z => by rw [z, hq] at e; cases e
        rw [upd_ne na]
        exact s24.at nt e
      · by_cases z : a = q
        · rw [z, upd_same]; exact fun q => nomatch q
        · rw [upd_ne z]; exact s24.d a h
      · exact (S2.stp ((s3'.trans s5).trans s6)).hid q4 nO nB
      · rw [List.length_append, List.length_singleton]; omega
      · exact dn.to (fun _ _ z => z) fun a o n _ e => by rw [upd_ne (fun z => n (.inr z))]; exact e
    | false =>
      rw [hf] at eq
      have e2 : ((xs.take (i + 1)).filter f).map y = ((xs.take i).filter f).map y := by rw [eq]; simp
      refine ⟨hil, s23, S2.stp (s3'.trans s5), acc, q3, by omega, ?_⟩
      rw [e2]; exact dl3
  · have ei : i = xs.length := by omega
    subst ei
    rw [List.take_length] at dl
    refine .inl ⟨by have := T.2; rwa [List.length_map] at this, k _ H' (by have := s1.trans s2; rwa [Bool.or_false] at this) (S1.stp s2) ⟨q, rfl, s1.fresh S1.om S1.mn hq, ?_, acc, ea, dl⟩⟩
    have := lenW xs.length (Nat.le_refl _)
    rw [List.take_length] at this
    omega
theorem ev_lc {α : Type} {xs : List α} {enc : α → D} (f : α → Bool) (y : α → D) {scope : Scope} (own : List (Str × Nat)) (hN : X.N.Nodup) (hi : EvP X tg iter ρ (xs.map enc) m ρ0)
    (step : ∀ x ∈ xs, LcStep X scope (own.map (·.2)) js tg elt ifs ρ0 enc f y x) (sub : ∀ j ∈ js, j ∈ own.map (·.2) := by decide) (hb : blkC X.N X.env.scope scope own = true := by kernel_rfl) (hc : X.calm = true := by rfl) (hs : ∀ x, foldedSetIterable iter X.env x = pure x := by intro _; rfl) :
    Ev X (.ListComp elt [⟨tg, iter, ifs, 0⟩] scope pos) ρ (.n (.lst ((xs.filter f).map y))) m ρ0 := fun B G M O σ H Q S k =>
  ⟨_, pe_lc hc hN pi_w (blkOk_by hb) pg_b pts_b pe_b hs, lc_core50 hi sub step B G M O σ H Q S k⟩
end
end N50
/-! text Ev5 -/
set_option maxHeartbeats 4000000
namespace N50
open PySem PySem.Spec PyProof.Rows L2

/-- what is wanted behind a statement, over plain data -/
structure Po where
  nx : En → Prop
  rt : RK → En → Prop
  bk : En → Prop := fun _ => False
  ct : En → Prop := fun _ => False
structure PoOk (K : PySem.W.Frag) (B : Base) (G : List (D × V)) (P : Po) (Dn : Ends) : Prop where
  nx : ∀ ρ M O σ H, P.nx ρ → Sim K B G M O H σ ρ → Dn.nx σ H
  rt : ∀ r ρ M O σ H v, P.rt r ρ → Sim K B G M O H σ ρ → ResOk K B.M B.H H r v → Dn.rt v H
  bk : ∀ ρ M O σ H, P.bk ρ → Sim K B G M O H σ ρ → Dn.bk σ H
  ct : ∀ ρ M O σ H, P.ct ρ → Sim K B G M O H σ ρ → Dn.ct σ H
def SS (X : Cx) (ss : List Stmt) (P : Po) (ρ : En) : Prop :=
  ∀ (B : Base) (G : List (D × V)) (M O : Addr → Prop) (σ : L2.St) (H : Hp) (Dn : Ends), Sim X.K B G M O H σ ρ → PoOk X.K B G P Dn → wSs X ss Dn σ H
section
variable {X : Cx} {a b c e tg iter elt : Expr} {es ifs : List Expr} {rest body els : List Stmt} {P : Po} {ρ ρ0 ρ1 ρ2 ρ3 : En} {m m1 m2 m3 : Bool} {pos p p2 pos' : Pos} {x : Str} {rs : List RK} {r ra rb : RK} {d : D} {ds : List D} {js : List Nat}
theorem ss_nil (h : P.nx ρ) : SS X [] P ρ := fun B G M O σ H Dn S k => ⟨_, pss_nil, k.nx ρ M O σ H h S⟩
/-- one statement, the rest behind it -/
theorem ss_one {st : Stmt} {t : TS} (h : PS X st t) (k : ∀ (B : Base) (G : List (D × V)) (M O : Addr → Prop) (σ : L2.St) (H : Hp) (Dn : Ends), Sim X.K B G M O H σ ρ → PoOk X.K B G P Dn → t { Dn with nx := wSs X rest Dn } σ H) : SS X (st :: rest) P ρ := fun B G M O σ H Dn S q =>
  ⟨_, pss_cons h pss_w, k B G M O σ H Dn S q⟩
/-- forgetting slots -/
def Le (ρ ρ' : En) : Prop := ρ.length = ρ'.length ∧ ∀ (i : Nat) (s : Sl), ρ[i]? = some s → s = .no ∨ ρ'[i]? = some s
theorem Sim.weak {K : PySem.W.Frag} {B : Base} {G : List (D × V)} {M O : Addr → Prop} {H : Hp} {σ : L2.St} {ρ ρ' : En} (S : Sim K B G M O H σ ρ') (l : Le ρ ρ') : Sim K B G M O H σ ρ := by
  refine ⟨S.len.trans l.1.symm, S.ext, S.gd, S.m0, S.om, S.mn, S.on, S.gh, fun i d e => ?_, fun i b d e => ?_, fun i j b c d e p h1 h2 h3 h4 => ?_, S.bo⟩
  · rcases l.2 i _ e with q | q
    · cases q
    · exact S.val i d q
  · rcases l.2 i _ e with q | q
    · cases q
    · exact S.own i b d q
  · rcases l.2 i _ h1 with q | q
    · cases q
    · rcases l.2 j _ h2 with q2 | q2
      · cases q2
      · exact S.inj i j b c d e p q q2 h3 h4
theorem Le.refl (ρ : En) : Le ρ ρ := ⟨rfl, fun _ _ h => .inr h⟩
theorem le_nil : Le [] [] := Le.refl []
theorem le_no {s : Sl} {l l' : En} (h : Le l l') : Le (.no :: l) (s :: l') := ⟨by simp [h.1], fun i t e => by
  cases i with
  | zero => left; simpa using e.symm
  | succ i => simpa using h.2 i t (by simpa using e)⟩
theorem le_eq {s : Sl} {l l' : En} (h : Le l l') : Le (s :: l) (s :: l') := ⟨by simp [h.1], fun i t e => by
  cases i with
  | zero => right; simpa using e
  | succ i => simpa using h.2 i t (by simpa using e)⟩
theorem ss_weak (l : Le ρ1 ρ) (h : SS X body P ρ1) : SS X body P ρ := fun B G M O σ H Dn S k => h B G M O σ H Dn (S.weak l) k
theorem SS.mono {P' : Po} (h : SS X body P ρ) (h1 : ∀ ρ, P.nx ρ → P'.nx ρ) (h2 : ∀ r ρ, P.rt r ρ → P'.rt r ρ) (h3 : ∀ ρ, P.bk ρ → P'.bk ρ) (h4 : ∀ ρ, P.ct ρ → P'.ct ρ) : SS X body P' ρ := fun B G M O σ H Dn S k =>
  h B G M O σ H Dn S ⟨fun ρ M O σ H q => k.nx ρ M O σ H (h1 ρ q), fun r ρ M O σ H v q => k.rt r ρ M O σ H v (h2 r ρ q), fun ρ M O σ H q => k.bk ρ M O σ H (h3 ρ q), fun ρ M O σ H q => k.ct ρ M O σ H (h4 ρ q)⟩
/-- an owned object that this def made is data from now on -/
theorem Sim.freeze {K : PySem.W.Frag} {B : Base} {G : List (D × V)} {M O : Addr → Prop} {H : Hp} {σ : L2.St} {ρ : En} {i : Nat} (S : Sim K B G M O H σ ρ) (hr : ρ[i]? = some (.own true d)) : ∃ M' O', Sim K B G M' O' H σ (ρ.set i (.val d)) := by
  obtain ⟨q, e1, e2, e3, e4⟩ := S.own i true d hr
  have hi : i < ρ.length := (List.getElem?_eq_some_iff.mp hr).1
  have sub : ∀ a, H a ≠ none → (M a ∧ a ≠ q) → M a := fun _ _ z => z.1
  have keep : ∀ a u, ¬ M a → NT u = true → H a = some u → H a = some u := fun _ _ _ _ e => e
  refine ⟨fun a => M a ∧ a ≠ q, fun a => O a ∧ a ≠ q, by rw [List.length_set]; exact S.len, S.ext, S.gd, fun a h => ⟨S.m0 a h, fun z => e3.1 rfl (by rw [← z]; exact h)⟩, fun a h => ⟨S.om a h.1, h.2⟩, fun a h => S.mn a h.1, fun a h => S.on a h.1, fun x hx => (S.gh x hx).to sub keep, fun j d' e => ?_, fun j b d' e => ?_, fun j l b c d' e p ej el sj sl => ?_, S.bo⟩
  · by_cases hj : j = i
    · subst hj
      rw [List.getElem?_set_self hi] at e
      cases e
      exact ⟨.ref q, e1, (e4.to sub keep rfl).den fun z => z.2 rfl⟩
    · rw [List.getElem?_set_ne (Ne.symm hj)] at e
      obtain ⟨v, h1, h2⟩ := S.val j d' e
      exact ⟨v, h1, h2.to sub keep⟩
  · have hj : j ≠ i := fun z => by subst z; rw [List.getElem?_set_self hi] at e; cases e
    rw [List.getElem?_set_ne (Ne.symm hj)] at e
    obtain ⟨p, h1, h2, h3, h4⟩ := S.own j b d' e
    exact ⟨p, h1, ⟨h2, fun z => hj (S.inj j i b true d' d p e hr h1 (by rw [z]; exact e1))⟩, h3, h4.to sub keep rfl⟩
  · have ne : ∀ {j : Nat} {b : Bool} {e : D}, (ρ.set i (.val d))[j]? = some (.own b e) → j ≠ i := fun {j b e} hj z => by
      subst z; rw [List.getElem?_set_self hi] at hj; cases hj
    have n1 := ne ej
    have n2 := ne el
    rw [List.getElem?_set_ne (Ne.symm n1)] at ej
    rw [List.getElem?_set_ne (Ne.symm n2)] at el
    exact S.inj j l _ _ _ _ p ej el sj sl
theorem ss_fz (i : Nat) (hr : ρ[i]? = some (.own true d)) (h : SS X body P (ρ.set i (.val d))) : SS X body P ρ := fun B G M O σ H Dn S k => by
  obtain ⟨M', O', S'⟩ := S.freeze hr
  exact h B G M' O' σ H Dn S' k
/-- a new object into a slot, owned -/
theorem Sim.setO {K : PySem.W.Frag} {B : Base} {G : List (D × V)} {M O : Addr → Prop} {H H' : Hp} {σ : L2.St} {ρ : En} {q : Addr} (S : Sim K B G M O H σ ρ) (s : Stp false O H H') (n : H q = none) (ok : OwnOk K (fun a => M a ∨ a = q) H' q d) (i : Nat) :
    Sim K B G (fun a => M a ∨ a = q) (fun a => O a ∨ a = q) H' (σ.set i (some (.ref q))) (ρ.set i (.own true d)) := by
  have hlen := S.len
  have nM : ¬ M q := fun z => S.mn q z n
  have sub : ∀ a, H a ≠ none → (M a ∨ a = q) → M a := fun a h z => by
    rcases z with z | z
    · exact z
    · rw [z] at h; exact absurd n h
  have keep : ∀ a u, ¬ M a → NT u = true → H a = some u → H' a = some u := fun a u _ nt e => s.at nt e
  have cs : ∀ {j : Nat} {t : Sl}, (ρ.set i (.own true d))[j]? = some t → (j = i ∧ t = .own true d ∧ j < ρ.length) ∨ (j ≠ i ∧ ρ[j]? = some t) := fun {j t} e => by
    by_cases hj : j = i
    · subst hj
      by_cases hl : j < ρ.length
      · rw [List.getElem?_set_self hl] at e
        exact .inl ⟨rfl, (Option.some.inj e).symm, hl⟩
      · rw [List.getElem?_eq_none (by rw [List.length_set]; omega)] at e; cases e
    · rw [List.getElem?_set_ne (Ne.symm hj)] at e
      exact .inr ⟨hj, e⟩
  have bq : B.H q = none := S.ext.no n
  refine ⟨by rw [List.length_set, List.length_set]; exact S.len, S.ext.bhd s, S.gd.stp s, fun a h => .inl (S.m0 a h), fun a h => h.imp (S.om a) id, fun a h => ?_, fun a h => ?_, fun x hx => (S.gh x hx).to sub keep, fun j d' e => ?_, fun j b d' e => ?_, fun j l b c d' e p ej el sj sl => ?_, S.bo⟩
  · rcases h with h | h
    · exact s.d a (S.mn a h)
    · rw [h]
      obtain ⟨o, e⟩ := ok.some
      rw [e]; exact fun z => nomatch z
  · rcases h with h | h
    · exact S.on a h
    · rw [h]; exact .inr bq
  · rcases cs e with ⟨_, q, _⟩ | ⟨hj, e⟩
    · cases q
    · rw [List.getElem?_set_ne (Ne.symm hj)]
      obtain ⟨v, h1, h2⟩ := S.val j d' e
      exact ⟨v, h1, h2.to sub keep⟩
  · rcases cs e with ⟨hj, z, hl⟩ | ⟨hj, e⟩
    · cases z
      subst hj
      exact ⟨q, List.getElem?_set_self (by omega), .inr rfl, ⟨fun _ z => nM (S.m0 q z), fun z => nomatch z⟩, ok⟩
    · rw [List.getElem?_set_ne (Ne.symm hj)]
      obtain ⟨p, h1, h2, h3, h4⟩ := S.own j b d' e
      obtain ⟨u, eu, nt, _⟩ := h4.nt
      exact ⟨p, h1, .inl h2, h3, h4.to sub keep ((s.at nt eu).trans eu.symm)⟩
  · have other : ∀ {j : Nat} {b : Bool} {e : D} {p : Addr}, j ≠ i → ρ[j]? = some (.own b e) → σ[j]? = some (some (.ref p)) → p ≠ q := fun {j b e p} hj h1 h2 z => by
      obtain ⟨p', g1, g2, _, _⟩ := S.own j b e h1
      rw [h2] at g1
      cases g1
      exact nM (S.om q (by rw [← z]; exact g2))
    rcases cs ej with ⟨hj, _, hl⟩ | ⟨hj, ej2⟩
    · rcases cs el with ⟨hl2, _, _⟩ | ⟨hl2, el2⟩
      · rw [hj, hl2]
      · subst hj
        rw [List.getElem?_set_self (by omega)] at sj
        rw [List.getElem?_set_ne (Ne.symm hl2)] at sl
        cases sj
        exact absurd rfl (other hl2 el2 sl)
    · rw [List.getElem?_set_ne (Ne.symm hj)] at sj
      rcases cs el with ⟨hl2, _, hl3⟩ | ⟨hl2, el2⟩
      · subst hl2
        rw [List.getElem?_set_self (by omega)] at sl
        cases sl
        exact absurd rfl (other hj ej2 sj)
      · rw [List.getElem?_set_ne (Ne.symm hl2)] at sl
        exact S.inj j l _ _ _ _ p ej2 el2 sj sl

/-! ### statements -/
theorem ss_set (i : Nat) (hN : X.N.Nodup) (h : Ev X e ρ r m ρ1) (k : SS X rest P (ρ1.set i (.val r.d))) (st : r.st = true := by rfl) (hi : X.N[i]? = some x := by rfl) (hx : Loc X.env.scope x := by first | exact Or.inl rfl | exact Or.inr rfl) (hf : X.fn x = true ∨ X.env.scope.names.lookup x = some .local := by first | exact Or.inl rfl | exact Or.inr rfl) (hs : swapsWith e (some (.Name x pos')) pos.line X.env = pure false := by rfl) :
    SS X (.Assign [.Name x pos'] e pos :: rest) P ρ := ss_one (ps_set hN hi hx pe_w hs hf) fun B G M O σ H Dn S q =>
  h B G M O σ H _ S fun v H' s S' r => k B G M O _ H' Dn (S'.setV (r.den st S.mn) i) q
theorem ss_setN (i : Nat) (hN : X.N.Nodup) (h : Ev X e ρ (.n d) false ρ) (k : SS X rest P (ρ.set i (.own true d))) (hi : X.N[i]? = some x := by rfl) (hx : Loc X.env.scope x := by first | exact Or.inl rfl | exact Or.inr rfl) (hf : X.fn x = true ∨ X.env.scope.names.lookup x = some .local := by first | exact Or.inl rfl | exact Or.inr rfl) (hs : swapsWith e (some (.Name x pos')) pos.line X.env = pure false := by rfl) :
    SS X (.Assign [.Name x pos'] e pos :: rest) P ρ := ss_one (ps_set hN hi hx pe_w hs hf) fun B G M O σ H Dn S q =>
  h B G M O σ H _ S fun v H' s S' r => by
    obtain ⟨a, rfl, n, ok⟩ := r
    exact k B G _ _ _ H' Dn (S.setO s n ok i) q
/-- x = [.. for ..], x a plain local -/
theorem ss_setLc (i : Nat) {α : Type} {xs : List α} {enc : α → D} (f : α → Bool) (y : α → D) {scope : Scope} (own : List (Str × Nat)) (hN : X.N.Nodup) 
 (hp : EvP X tg iter ρ (xs.map enc) m ρ0) (step : ∀ x ∈ xs, LcStep X scope (own.map (·.2)) js tg elt ifs ρ0 enc f y x)
 (k : SS X rest P (ρ0.set i (.val (.lst ((xs.filter f).map y))))) (sub : ∀ j ∈ js, j ∈ own.map (·.2) := by decide) (hb : blkC X.N X.env.scope scope own = true := by kernel_rfl) (hc : X.calm = true := by rfl) (hi : X.N[i]? = some x := by rfl) (hx : X.env.scope.names.lookup x = some .local := by rfl) (hsw : swapsWith (.ListComp elt [⟨tg, iter, ifs, 0⟩] scope p) (some (.Name x pos')) pos.line X.env = pure true := by exact sw_true rfl rfl rfl (by decide +kernel)) (hs : ∀ x, foldedSetIterable iter X.env x = pure x := by intro _; rfl) :
    SS X (.Assign [.Name x pos'] (.ListComp elt [⟨tg, iter, ifs, 0⟩] scope p) pos :: rest) P ρ := ss_one (ps_setLc hc hN hi hx hsw pi_w (blkOk_by hb) pg_b pts_b pe_b hs) fun B G M O σ H Dn S q =>
  lc_core50 hp sub step B G M O σ H _ S fun v H' s S' r => k B G M O _ H' Dn (S'.setV (r.den rfl S.mn) i) q
/-- the same, the list owned -/
theorem ss_setLcN (i : Nat) {α : Type} {xs : List α} {enc : α → D} (f : α → Bool) (y : α → D) {scope : Scope} (own : List (Str × Nat)) (hN : X.N.Nodup) 
 (hp : EvP X tg iter ρ (xs.map enc) false ρ) (step : ∀ x ∈ xs, LcStep X scope (own.map (·.2)) js tg elt ifs ρ enc f y x)
 (k : SS X rest P (ρ.set i (.own true (.lst ((xs.filter f).map y))))) (sub : ∀ j ∈ js, j ∈ own.map (·.2) := by decide) (hb : blkC X.N X.env.scope scope own = true := by kernel_rfl) (hc : X.calm = true := by rfl) (hi : X.N[i]? = some x := by rfl) (hx : X.env.scope.names.lookup x = some .local := by rfl) (hsw : swapsWith (.ListComp elt [⟨tg, iter, ifs, 0⟩] scope p) (some (.Name x pos')) pos.line X.env = pure true := by exact sw_true rfl rfl rfl (by decide +kernel)) (hs : ∀ x, foldedSetIterable iter X.env x = pure x := by intro _; rfl) :
    SS X (.Assign [.Name x pos'] (.ListComp elt [⟨tg, iter, ifs, 0⟩] scope p) pos :: rest) P ρ := ss_one (ps_setLc hc hN hi hx hsw pi_w (blkOk_by hb) pg_b pts_b pe_b hs) fun B G M O σ H Dn S q =>
  lc_core50 hp sub step B G M O σ H _ S fun v H' s S' r => by
    obtain ⟨a, rfl, n, ok⟩ := r
    exact k B G _ _ _ H' Dn (S.setO s n ok i) q
/-- a, b, .. = e -/
theorem ss_unp {j : Nat} (h : Ev X e ρ r m ρ1) (ed : r.d = .tup ds) (hg : EvGs X es ds js ρ1 ρ2) (k : SS X rest P ρ2) (hn : (assignEach es X.env).length = ds.length := by rfl) (hst : (assignEach es X.env).findIdx? (·.1) = none := by rfl)
 (hs : swapsWithSole [.Tuple es j pos'] e pos.line X.env = pure false := by rfl) (hw : swappedStores [.Tuple es j pos'] e X.env = pure none := by rfl) (hc : X.calm = true := by rfl) (st : r.st = true := by rfl) : SS X (.Assign [.Tuple es j pos'] e pos :: rest) P ρ := ss_one (ps_asg pe_w pg_w hs hw) fun B G M O σ H Dn S q =>
  h B G M O σ H _ S fun v H' s S' r1 => eg_t (hc := hc) hg hn hst B G M O σ H' v _ S' (ed ▸ r1.den st S.mn) fun vs S2 => k B G M O _ H' Dn S2 q
theorem ss_if {t : Bool} (h : EvT X c ρ t m ρ1) (k1 : t = true → SS X body { P with nx := fun ρ => SS X rest P ρ } ρ1) (k2 : t = false → SS X els { P with nx := fun ρ => SS X rest P ρ } ρ1) : SS X (.If c body els pos :: rest) P ρ := ss_one (ps_if pt_w pss_w pss_w) fun B G M O σ H Dn S q =>
  h B G M O σ H _ S fun H' s S' => by
    have q' : PoOk X.K B G { P with nx := fun ρ => SS X rest P ρ } { Dn with nx := wSs X rest Dn } := ⟨fun ρ M O σ H h S => h B G M O σ H Dn S q, q.rt, q.bk, q.ct⟩
    cases t with
    | true => exact k1 rfl B G M O σ H' _ S' q'
    | false => exact k2 rfl B G M O σ H' _ S' q'
/-- if without else, nothing changed by the test -/
theorem ss_when {t : Bool} (h : EvT X c ρ t m ρ1) (k1 : t = true → SS X body { P with nx := fun ρ => SS X rest P ρ } ρ1) (k2 : t = false → SS X rest P ρ1) : SS X (.If c body [] pos :: rest) P ρ := ss_if h k1 fun e => ss_nil (k2 e)
theorem ss_ret (h : Ev X e ρ r m ρ1) (k : ∃ r', (r' = r ∨ r' = .v r.d) ∧ P.rt r' ρ1) (st : r.st = true := by rfl) : SS X (.Return (some e) pos :: rest) P ρ := ss_one (ps_ret pe_w) fun B G M O σ H Dn S q =>
  h B G M O σ H _ S fun v H' s S' r1 => by
    have hv : ResOk X.K B.M B.H H' (.v r.d) v := (r1.den st S.mn).to (fun a _ z => S.m0 a z) fun _ _ _ _ e => e
    obtain ⟨r', hr, hp⟩ := k
    rcases hr with hr | hr
    · subst hr
      refine q.rt _ ρ1 M O σ H' v hp S' ?_
      cases r' with
      | v d => exact hv
      | n d =>
        obtain ⟨p, e, n, ok⟩ := r1
        refine ⟨p, e, ?_, ok.to (fun a _ z => z.imp (S.m0 a) id) (fun _ _ _ _ e => e) rfl⟩
        exact S.ext.no n
      | b d => exact nomatch st
    · subst hr
      exact q.rt _ ρ1 M O σ H' v hp S' hv
/-- return x, x an owned object that this def made -/
theorem ss_retO (i : Nat) (hr : ρ[i]? = some (.own true d)) (k : P.rt (.n d) ρ ∨ P.rt (.v d) ρ) (hN : X.N[i]? = some x := by rfl) (hv : Vis X.env.scope x := by first | exact Or.inl rfl | exact Or.inr (Or.inl rfl) | exact Or.inr (Or.inr rfl)) (hd : (x == ("__debug__" : Str)) = false := by decide) (hcd : (x == ("__classdict__" : Str)) = false := by decide) :
    SS X (.Return (some (.Name x p)) pos :: rest) P ρ := ss_one (ps_ret pe_w) fun B G M O σ H Dn S q => by
  obtain ⟨a, e1, e2, e3, e4⟩ := S.own i true d hr
  refine ⟨_, pe_var hN hv hd hcd, .ref a, e1, ?_⟩
  have nB := e3.1 rfl
  have bn : B.H a = none := by
    rcases S.on a e2 with z | z
    · exact absurd (S.bo a z) nB
    · exact z
  rcases k with k | k
  · refine q.rt _ ρ M O σ H (.ref a) k S ⟨a, rfl, bn, e4.to (fun b h z => ?_) (fun _ _ _ _ e => e) rfl⟩
    rcases z with z | z
    · exact S.m0 b z
    · rw [z]; exact S.om a e2
  · refine q.rt _ ρ M O σ H (.ref a) k S ((e4.to (M' := B.M) (fun b _ z => S.m0 b z) (fun _ _ _ _ e => e) rfl).den nB)
theorem ss_break (h : P.bk ρ) : SS X (.Break pos :: rest) P ρ := ss_one ps_break fun B G M O σ H Dn S q => q.bk ρ M O σ H h S
theorem ss_cont (h : P.ct ρ) : SS X (.Continue pos :: rest) P ρ := ss_one ps_continue fun B G M O σ H Dn S q => q.ct ρ M O σ H h S
/-- x.append(e), x owned -/
theorem ss_app (i : Nat) {f : Bool} {p3 : Pos} (h : Ev X e ρ r m ρ1) (hr : ρ1[i]? = some (.own f (.lst ds))) (hz : ds.length < sizeLine) (k : SS X rest P (ρ1.set i (.own f (.lst (ds ++ [r.d])))))
 (hbase : attributeBase (.Name x p) "append" X.env (eval (.Name x p) X.env) = eval (.Name x p) X.env := by rfl) (hfew : ((backTo p2 (starEach [e] X.env)).all (fun x => !x.1) && (backToKw p2 (keywordEach [] X.env)).all (fun x => x.1.isSome)
 && decide ([e].length + ([] : List Keyword).length + (if ([] : List Keyword).isEmpty then 0 else 1) < 30)) = true := by rfl)
 (hline : (p3.endLine == p2.line) = true := by rfl) (he : starEach [e] X.env = (false, eval e X.env) :: starEach [] X.env := by rfl) (hpl : (backTo p2 (starEach [] X.env)).any (·.1) = false := by rfl)
 (hs : swapsWith (.Call (.Attribute (.Name x p) "append" p3) [e] [] p2) none pos.line X.env = pure false := by rfl)
 (hd : (x == ("__debug__" : Str)) = false := by decide) (hcd : (x == ("__classdict__" : Str)) = false := by decide) (st : r.st = true := by rfl) (hr0 : ∃ d0, ρ[i]? = some (.own f (.lst d0)) := by exact ⟨_, rfl⟩) (hN : X.N[i]? = some x := by rfl) (hv : Vis X.env.scope x := by first | exact Or.inl rfl | exact Or.inr (Or.inl rfl) | exact Or.inr (Or.inr rfl)) :
    SS X (.Expr (.Call (.Attribute (.Name x p) "append" p3) [e] [] p2) pos :: rest) P ρ := ss_one (ps_expr (pe_bm PySem.F.plainAttrs_list PySem.F.slot_list_append PySem.F.type_list_append mt_append (pe_var hN hv hd hcd) (pa_cons pe_w pa_nil he) hbase hfew hline he hpl) hs) fun B G M O σ H Dn S q => by
  obtain ⟨d0, hr0⟩ := hr0
  obtain ⟨a, e1, e2, e3, z, vs, e4, l⟩ := S.own i f _ hr0
  refine ⟨.ref a, e1, .inl ⟨rfl, _, .inl (.inl e4)⟩, ?_⟩
  refine h B G M O σ H _ S fun v H' s S' r1 => ?_
  obtain ⟨a', g1, g2, g3, g4, ws, g5, l2⟩ := S'.own i f _ hr
  rw [e1] at g1
  cases g1
  have hl := l2.length
  refine ⟨a, ws, v, rfl, rfl, g5, by omega, ?_⟩
  refine k B G M O σ _ Dn (S'.put hr e1 ⟨?_, _, upd_same, ?_⟩) q
  · rw [List.length_append, List.length_singleton]; omega
  · refine DenL.append (l2.to (fun _ _ z => z) fun b o n _ e => ?_) (.cons ((r1.den st S.mn).to (fun _ _ z => z) fun b o n _ e => ?_) .nil)
    all_goals
      rw [upd_ne (fun z => n (by rw [z]; exact S'.om a g2))]; exact e
end
end N50
/-! text Ev6 -/
set_option maxHeartbeats 4000000
namespace N50
open PySem PySem.Spec PyProof.Rows L2
section
variable {X : Cx} {a b c e tg iter elt : Expr} {es ifs : List Expr} {rest body els : List Stmt} {P : Po} {ρ ρ0 ρ1 ρ2 ρ3 : En} {m m1 m2 m3 : Bool} {pos p p2 p3 pos' : Pos} {x : Str} {rs : List RK} {r ra rb : RK} {d : D} {ds : List D} {js : List Nat}
/-- x.insert(k, e), x owned -/
theorem ss_ins (i : Nat) {f : Bool} {b : Expr} {n : Nat} (h : EvA X [a, b] ρ [ra, rb] m ρ1) (ea : ra.d = .int (n : Nat)) (hn : n < 1000000) (hr : ρ1[i]? = some (.own f (.lst ds))) (hz : ds.length < sizeLine)
 (k : SS X rest P (ρ1.set i (.own f (.lst (ds.take n ++ [rb.d] ++ ds.drop n)))))
 (hbase : attributeBase (.Name x p) "insert" X.env (eval (.Name x p) X.env) = eval (.Name x p) X.env := by rfl) (hfew : ((backTo p2 (starEach [a, b] X.env)).all (fun x => !x.1) && (backToKw p2 (keywordEach [] X.env)).all (fun x => x.1.isSome)
 && decide ([a, b].length + ([] : List Keyword).length + (if ([] : List Keyword).isEmpty then 0 else 1) < 30)) = true := by rfl)
 (hline : (p3.endLine == p2.line) = true := by rfl) (he : starEach [a, b] X.env = (false, eval a X.env) :: starEach [b] X.env := by rfl) (hpl : (backTo p2 (starEach [b] X.env)).any (·.1) = false := by rfl)
 (hs : swapsWith (.Call (.Attribute (.Name x p) "insert" p3) [a, b] [] p2) none pos.line X.env = pure false := by rfl)
 (hd : (x == ("__debug__" : Str)) = false := by decide) (hcd : (x == ("__classdict__" : Str)) = false := by decide) (st : rb.st = true := by rfl) (hr0 : ∃ d0, ρ[i]? = some (.own f (.lst d0)) := by exact ⟨_, rfl⟩) (hN : X.N[i]? = some x := by rfl) (hv : Vis X.env.scope x := by first | exact Or.inl rfl | exact Or.inr (Or.inl rfl) | exact Or.inr (Or.inr rfl)) :
    SS X (.Expr (.Call (.Attribute (.Name x p) "insert" p3) [a, b] [] p2) pos :: rest) P ρ := ss_one (ps_expr (pe_bm PySem.F.plainAttrs_list PySem.F.slot_list_insert PySem.F.type_list_insert mt_insert (pe_var hN hv hd hcd) pa_w hbase hfew hline he hpl) hs) fun B G M O σ H Dn S q => by
  obtain ⟨d0, hr0⟩ := hr0
  obtain ⟨a', e1, e2, e3, z, vs, e4, l⟩ := S.own i f _ hr0
  refine ⟨.ref a', e1, .inl ⟨rfl, _, .inl (.inl e4)⟩, ?_⟩
  refine h B G M O σ H _ S fun us H' s S' r1 => ?_
  obtain ⟨v, u, rfl, h1, h2⟩ := a2 r1
  obtain ⟨a'', g1, g2, g3, g4, ws, g5, l2⟩ := S'.own i f _ hr
  rw [e1] at g1
  cases g1
  have hl := l2.length
  have hv1 := ArgOk.low h1
  rw [ea] at hv1
  rw [den_int hv1]
  refine ⟨a', ws, _, u, rfl, rfl, g5, by omega, by omega, by omega, ?_⟩
  rw [Int.toNat_natCast]
  refine k B G M O σ _ Dn (S'.put hr e1 ⟨?_, _, upd_same, ?_⟩) q
  · simp only [List.length_append, List.length_singleton, List.length_take, List.length_drop]; omega
  · have keep : ∀ b o, ¬ M b → NT o = true → H' b = some o → upd H' a' (.lst (ws.take n ++ [u] ++ ws.drop n)) b = some o := fun b o n _ e => by
      rw [upd_ne (fun z => n (by rw [z]; exact S'.om a' g2))]; exact e
    exact (((l2.take n).append (.cons (h2.den st) .nil)).append (l2.drop n)).to (fun _ _ z => z) keep
/-- x.reverse(), x owned -/
theorem ss_rev (i : Nat) {f : Bool} (hr : ρ[i]? = some (.own f (.lst ds))) (k : SS X rest P (ρ.set i (.own f (.lst ds.reverse))))
 (hbase : attributeBase (.Name x p) "reverse" X.env (eval (.Name x p) X.env) = eval (.Name x p) X.env := by rfl) (hline : (p3.endLine == p2.line) = true := by rfl)
 (hs : swapsWith (.Call (.Attribute (.Name x p) "reverse" p3) [] [] p2) none pos.line X.env = pure false := by rfl)
 (hd : (x == ("__debug__" : Str)) = false := by decide) (hcd : (x == ("__classdict__" : Str)) = false := by decide) (hN : X.N[i]? = some x := by rfl) (hv : Vis X.env.scope x := by first | exact Or.inl rfl | exact Or.inr (Or.inl rfl) | exact Or.inr (Or.inr rfl)) :
    SS X (.Expr (.Call (.Attribute (.Name x p) "reverse" p3) [] [] p2) pos :: rest) P ρ := ss_one (ps_expr (pe_bm0 PySem.F.plainAttrs_list PySem.F.slot_list_reverse PySem.F.type_list_reverse mt_reverse (pe_var hN hv hd hcd) hbase hline) hs) fun B G M O σ H Dn S q => by
  obtain ⟨a', e1, e2, e3, z, vs, e4, l⟩ := S.own i f _ hr
  refine ⟨.ref a', e1, .inl ⟨rfl, _, .inl (.inl e4)⟩, a', vs, rfl, rfl, e4, ?_⟩
  refine k B G M O σ _ Dn (S.put hr e1 ⟨by rw [List.length_reverse]; exact z, _, upd_same, ?_⟩) q
  exact l.rev.to (fun _ _ z => z) fun b o n _ e => by rw [upd_ne (fun z => n (by rw [z]; exact S.om a' e2))]; exact e
theorem ixN_nat {n j : Nat} (h : j < n) : ixN n (j : Nat) = some j := by
  unfold ixN
  rw [if_pos (by omega), if_pos (by omega)]
  simp
/-- x[k] = e, x an owned list -/
theorem ss_put (i : Nat) {f : Bool} {b : Expr} {n : Nat} (h : Ev X e ρ ra m1 ρ1) (hb : Ev X b ρ1 rb false ρ1) (eb : rb.d = .int (n : Nat)) (hr : ρ1[i]? = some (.own f (.lst ds))) (hn : n < ds.length)
 (k : SS X rest P (ρ1.set i (.own f (.lst (ds.set n ra.d)))))
 (ha : ∀ v, assign (.Subscript (.Name x p) b p2) X.env v = (do
 let ov ← holding [v] (eval (.Name x p) X.env)
 let iv ← holding [v, ov] (eval b X.env)
 standAt p2
 holding [v, ov, iv] (setItem ov iv v)
 release [v, ov, iv] []) := by intro _; rfl)
 (hs : swapsWithSole [.Subscript (.Name x p) b p2] e pos.line X.env = pure false := by rfl) (hw : swappedStores [.Subscript (.Name x p) b p2] e X.env = pure none := by rfl)
 (hd : (x == ("__debug__" : Str)) = false := by decide) (hcd : (x == ("__classdict__" : Str)) = false := by decide) (sa : ra.st = true := by rfl) (hN : X.N[i]? = some x := by rfl) (hv : Vis X.env.scope x := by first | exact Or.inl rfl | exact Or.inr (Or.inl rfl) | exact Or.inr (Or.inr rfl)) :
    SS X (.Assign [.Subscript (.Name x p) b p2] e pos :: rest) P ρ := ss_one (ps_asg pe_w (pg_sub (pe_var hN hv hd hcd) pe_w set_list ha) hs hw) fun B G M O σ H Dn S q =>
  h B G M O σ H _ S fun v H1 s1 S1 r1 => by
    obtain ⟨a', e1, e2, e3, z, vs, e4, l⟩ := S1.own i f _ hr
    refine ⟨.ref a', e1, hb B G M O σ H1 _ S1 fun w H2 s2 S2 r2 => ?_⟩
    have hw := r2.low
    rw [eb] at hw
    rw [den_int hw]
    have e5 : H2 a' = some (.lst vs) := s2.at rfl e4
    refine ⟨a', vs, _, n, rfl, rfl, e5, ixN_nat (by rw [← l.length]; exact hn), ?_⟩
    refine k B G M O σ _ Dn (S2.put hr e1 ⟨by rw [List.length_set]; exact z, _, upd_same, ?_⟩) q
    have keep : ∀ b o, ¬ M b → NT o = true → H1 b = some o → upd H2 a' (.lst (vs.set n v)) b = some o := fun b o n nt e => by
      rw [upd_ne (fun z => n (by rw [z]; exact S1.om a' e2))]; exact s2.at nt e
    exact (l.set (r1.den sa S.mn) n).to (fun _ _ z => z) keep
theorem putD_len (kvs : List (Int × Int)) (i v : Int) : (putD kvs i v).length ≤ kvs.length + 1 := by
  unfold putD
  split
  · rw [List.length_map]; omega
  · rw [List.length_append]; exact Nat.le_refl _
/-- x[k] = e, x an owned dict of ints -/
theorem ss_dput (i : Nat) {f : Bool} {b : Expr} {kvs : List (Int × Int)} {n v : Int} (hu : X.A.units + 1 < cLine) (h : Ev X e ρ ra m1 ρ1) (ea : ra.d = .int v) (hb : Ev X b ρ1 rb false ρ1) (eb : rb.d = .int n) (hr : ρ1[i]? = some (.own f (.dic kvs))) (hz : kvs.length < sizeLine)
 (k : SS X rest P (ρ1.set i (.own f (.dic (putD kvs n v)))))
 (hs : swapsWith e (some (.Subscript (.Name x p) b p2)) pos.line X.env = pure false := by rfl)
 (hd : (x == ("__debug__" : Str)) = false := by decide) (hcd : (x == ("__classdict__" : Str)) = false := by decide) (hN : X.N[i]? = some x := by rfl) (hv : Vis X.env.scope x := by first | exact Or.inl rfl | exact Or.inr (Or.inl rfl) | exact Or.inr (Or.inr rfl)) :
    SS X (.Assign [.Subscript (.Name x p) b p2] e pos :: rest) P ρ := ss_one (ps_dput hu (pe_var hN hv hd hcd) pe_w pe_w hs) fun B G M O σ H Dn S q =>
  h B G M O σ H _ S fun w H1 s1 S1 r1 => by
    obtain ⟨a', e1, e2, e3, e4⟩ := S1.own i f _ hr
    refine ⟨.ref a', e1, hb B G M O σ H1 _ S1 fun u H2 s2 S2 r2 => ?_⟩
    have hw := r1.low
    rw [ea] at hw
    have hu2 := r2.low
    rw [eb] at hu2
    rw [den_int hw, den_int hu2]
    have e5 : H2 a' = some (.dK (dkOf kvs)) := s2.at rfl e4
    refine ⟨a', _, rfl, DPut.k (k := Sum.inl n) e5 (by unfold dkOf; rw [List.length_map]; exact hz), ?_⟩
    rw [putK_dk]
    exact k B G M O σ _ Dn (S2.put hr e1 upd_same) q

/-! ### loops -/
theorem Sim.gsub {K : PySem.W.Frag} {B : Base} {G G' : List (D × V)} {M O : Addr → Prop} {H : Hp} {σ : L2.St} {ρ : En} (S : Sim K B G' M O H σ ρ) (h : ∀ x ∈ G, x ∈ G') : Sim K B G M O H σ ρ :=
  ⟨S.len, S.ext, S.gd, S.m0, S.om, S.mn, S.on, fun x hx => S.gh x (h x hx), S.val, S.own, S.inj, S.bo⟩
theorem Sim.gadd {K : PySem.W.Frag} {B : Base} {G Γ : List (D × V)} {M O : Addr → Prop} {H : Hp} {σ : L2.St} {ρ : En} (S : Sim K B G M O H σ ρ) (h : ∀ x ∈ Γ, Den K M H x.1 x.2) : Sim K B (Γ ++ G) M O H σ ρ :=
  ⟨S.len, S.ext, S.gd, S.m0, S.om, S.mn, S.on, fun x hx => (List.mem_append.mp hx).elim (h x) (S.gh x), S.val, S.own, S.inj, S.bo⟩
theorem ss_for {α T : Type} {xs : List α} {enc : α → D} (E : T → En) (J : Nat → T → Prop) (s0 : T) (hp : PassesOwn (model X.prog X.w) X.A X.env X.xe) (hi : EvI X tg iter ρ (xs.map enc) m ρ0) (h0 : J 0 s0) (l0 : Le (E s0) ρ0)
 (step : ∀ i x s, xs[i]? = some x → J i s → ∃ js ρ1, EvG X tg (enc x) js (E s) ρ1 ∧ SS X body { P with nx := fun ρ => ∃ s', J (i + 1) s' ∧ Le (E s') ρ, ct := fun ρ => ∃ s', J (i + 1) s' ∧ Le (E s') ρ, bk := fun ρ => SS X rest P ρ } ρ1)
 (done : ∀ s, J xs.length s → SS X rest P (E s)) (hc : X.calm = true := by rfl) (hs : ∀ x, foldedSetIterable iter X.env x = pure x := by intro _; rfl) : SS X (.For tg iter body [] pos :: rest) P ρ := ss_one (ps_for hp hc pi_w pg_w pss_w hs) fun B G M O σ H Dn S q =>
  hi B G M O σ H _ S fun J1 H1 Γ s1 S1 hΓ hz hG => by
    refine ⟨fun i n σ H => i ≤ xs.length ∧ n = xs.length - i ∧ ∃ s M O, J i s ∧ Sim X.K B (Γ ++ G) M O H σ (E s), ⟨xs.length, Nat.zero_le _, by omega, s0, M, O, h0, (S1.gadd hΓ).weak l0⟩, fun i n σ H hW => ?_⟩
    obtain ⟨hi', hn, s, M, O, hJ, S2⟩ := hW
    have T := hG M H S2.mn fun x hx => S2.gh x (List.mem_append_left _ hx)
    by_cases hl : i < xs.length
    · have hx : xs[i]? = some xs[i] := List.getElem?_eq_getElem hl
      obtain ⟨go, yl⟩ := T.1 i (enc xs[i]) (by rw [List.getElem?_map, hx]; rfl)
      obtain ⟨js, ρ1, eg, hb⟩ := step i xs[i] s hx hJ
      refine .inr ⟨go, fun σ' H' => ∃ s' M O, J (i + 1) s' ∧ Sim X.K B (Γ ++ G) M O H' σ' (E s'), fun σ' H' h => ⟨xs.length - (i + 1), by omega, hl, rfl, h⟩, fun v H2 hy => ?_⟩
      obtain ⟨s3, dv⟩ := yl v H2 hy
      refine eg B (Γ ++ G) M O σ H2 v _ (S2.stp s3.of) dv fun us S4 => ?_
      refine hb B (Γ ++ G) M O _ H2 _ S4 ⟨fun ρ M O σ H h S => ?_, fun r ρ M O σ H v h S => q.rt r ρ M O σ H v h (S.gsub fun x hx => List.mem_append_right _ hx), fun ρ M O σ H h S => ?_, fun ρ M O σ H h S => ?_⟩
      · obtain ⟨s', hJ', hl'⟩ := h
        exact ⟨s', M, O, hJ', S.weak hl'⟩
      · exact h B G M O σ H Dn (S.gsub fun x hx => List.mem_append_right _ hx) q
      · obtain ⟨s', hJ', hl'⟩ := h
        exact ⟨s', M, O, hJ', S.weak hl'⟩
    · have ei : i = xs.length := by omega
      subst ei
      exact .inl ⟨by have := T.2; rwa [List.length_map] at this, done s hJ B G M O σ H Dn (S2.gsub fun x hx => List.mem_append_right _ hx) q⟩
theorem ss_while {T : Type} (E : T → En) (J : T → Prop) (μ : T → Nat) (s0 : T) (hp : PassesOwn (model X.prog X.w) X.A X.env X.xe) (h0 : J s0) (l0 : Le (E s0) ρ)
    (step : ∀ s, J s → ∃ t m ρ1, EvT X c (E s) t m ρ1 ∧ (t = true → SS X body { P with nx := fun ρ => ∃ s', J s' ∧ μ s' < μ s ∧ Le (E s') ρ, ct := fun ρ => ∃ s', J s' ∧ μ s' < μ s ∧ Le (E s') ρ, bk := fun ρ => SS X rest P ρ } ρ1) ∧ (t = false → SS X rest P ρ1)) :
    SS X (.While c body [] pos :: rest) P ρ := ss_one (ps_while hp pt_w pss_w) fun B G M O σ H Dn S q => by
  refine ⟨fun n σ H => ∃ s M O, n = μ s ∧ J s ∧ Sim X.K B G M O H σ (E s), ⟨μ s0, s0, M, O, rfl, h0, S.weak l0⟩, fun n σ H hW => ?_⟩
  obtain ⟨s, M, O, hn, hJ, S2⟩ := hW
  obtain ⟨t, m, ρ1, ht, h1, h2⟩ := step s hJ
  refine ht B G M O σ H _ S2 fun H' s' S' => ?_
  cases t with
  | true =>
    refine ⟨fun σ' H' => ∃ s' M O, μ s' < n ∧ J s' ∧ Sim X.K B G M O H' σ' (E s'), fun σ' H' h => ?_, ?_⟩
    · obtain ⟨s', M, O, g1, g2, g3⟩ := h
      exact ⟨μ s', g1, s', M, O, rfl, g2, g3⟩
    · refine h1 rfl B G M O σ H' _ S' ⟨fun ρ M O σ H h S => ?_, q.rt, fun ρ M O σ H h S => h B G M O σ H Dn S q, fun ρ M O σ H h S => ?_⟩
      all_goals
        obtain ⟨s', g1, g2, g3⟩ := h
        exact ⟨s', M, O, by omega, g1, S.weak g3⟩
  | false => exact h2 rfl B G M O σ H' Dn S' q

/-! ### calls of the text's own defs -/
/-- a def that changes nothing: R tells what it gives -/
def SpP (n : Nat) (R : List D → RK → Prop) (K : PySem.W.Frag) : Sp := fun vs H Q _ => vs.length = n ∧ Good K H ∧ ∃ (M : Addr → Prop) (ds : List D) (r : RK), (∀ a, M a → H a ≠ none) ∧ DenL K M H ds vs ∧ R ds r ∧ r.st = true ∧ ∀ v H', Stp false M H H' → ResOk K M H H' r v → Q v H'
/-- a def that is handed the list of draws at place j, and takes of it -/
def SpS (n j : Nat) (R : List D → List Int → RK → List Int → Prop) (K : PySem.W.Frag) : Sp := fun vs H Q _ => vs.length = n ∧ Good K H ∧ ∃ (M : Addr → Prop) (q : Addr) (ns : List Int) (ds : List D) (r : RK) (ns' : List Int), (∀ a, M a → H a ≠ none) ∧ M q ∧ vs[j]? = some (.ref q) ∧
  H q = some (.lst (ns.map V.int)) ∧ ns.length ≤ sizeLine ∧ DenL K M H ds (vs.eraseIdx j) ∧ R ds ns r ns' ∧ r.st = true ∧ ∀ v H', Stp true (fun a => a = q) H H' → H' q = some (.lst (ns'.map V.int)) → ns'.length ≤ sizeLine → ResOk K M H H' r v → Q v H'
structure Cal (P : Program) (w : World) (K : PySem.W.Frag) (mg : Str → Option Value) (base : Heap) (k : Nat) (x : Str) (sp : Sp) : Prop where
  ex : ∃ (f : Addr) (fd : FuncData) (ps : List Str), FnOk P w K mg base CX0 k f fd ps sp ∧ mg x = some (.ref f) ∧ PySem.W.keepIn K (.ref f) = true ∧ Binds K fd ps []
theorem ev_call {k n : Nat} {R : List D → RK → Prop} {r0 : RK} (C : Cal X.prog X.w X.K X.mg X.base k x (SpP n R X.K)) (hr : Room k X.A) (h : EvA X (e :: es) ρ rs m ρ1) (hR : R (rs.map RK.d) r0) 
 (hdb : (x == ("__debug__" : Str)) = false := by decide) (he : starEach (e :: es) X.env = (false, eval e X.env) :: starEach es X.env := by rfl) (hpl : (backTo pos (starEach es X.env)).any (·.1) = false := by rfl) (hg : Gl X x := by rfl) (hn : rs.length = n := by rfl) (hst : rs.all RK.st = true := by rfl) (h0 : r0.st = true := by rfl) :
    Ev X (.Call (.Name x p) (e :: es) [] pos) ρ r0 m ρ1 := fun B G M O σ H Q S kk => by
  obtain ⟨f, fd, ps, F, hm, hk, hb⟩ := C.ex
  refine ⟨_, pe_call F hr hg hm hk hb .nil pass0 pa_w hdb he hpl, h B G M O σ H _ S fun vs H1 s S1 r => ?_⟩
  have l := r.den hst
  have hl := l.length
  rw [List.length_map, hn] at hl
  show SpP n R X.K (vs ++ []) H1 Q _
  rw [List.append_nil]
  exact ⟨hl.symm, S1.gd, M, _, r0, S1.mn, l, hR, h0, fun v H2 s2 r2 => kk v H2 (by have := s.trans (m2 := false) (O := O) (H2 := H2) s2.of; rwa [Bool.or_false] at this) (S1.stp (O := O) s2.of) (r2.back s S1.om S1.mn)⟩
theorem ev_callW {k n : Nat} {R : List D → RK → Prop} {r0 : RK} (C : Cal X.prog X.w X.K X.mg X.base k x (SpP n R X.K)) (hr : Room k X.A) (h : EvA X (e :: es) ρ rs m ρ1) (hR : R (rs.map RK.d) r0) 
 (hdb : (x == ("__debug__" : Str)) = false := by decide) (he : starEach (e :: es) X.env = (false, eval e X.env) :: starEach es X.env := by rfl) (hpl : (backTo pos (starEach es X.env)).any (·.1) = false := by rfl) (hg : Gl X x := by rfl) (hn : rs.length = n := by rfl) (h0 : r0.st = true := by rfl) :
    Ev X (.Call (.Name x p) (e :: es) [] pos) ρ (.b r0.d) m ρ1 := fun B G M O σ H Q S kk => by
  obtain ⟨f, fd, ps, F, hm, hk, hb⟩ := C.ex
  refine ⟨_, pe_call F hr hg hm hk hb .nil pass0 pa_w hdb he hpl, h B G M O σ H _ S fun vs H1 s S1 r => ?_⟩
  have l := r.low
  have hl := l.length
  rw [List.length_map, hn] at hl
  show SpP n R X.K (vs ++ []) H1 Q _
  rw [List.append_nil]
  exact ⟨hl.symm, S1.gd, fun _ => False, _, r0, fun _ z => z.elim, l, hR, h0, fun v H2 s2 r2 => kk v H2 (by have := s.trans (m2 := false) (O := O) (H2 := H2) s2.of; rwa [Bool.or_false] at this) (S1.stp (O := O) s2.of) r2.low⟩
/-- behind a call that took draws -/
theorem drawn {K : PySem.W.Frag} {B : Base} {G : List (D × V)} {M O : Addr → Prop} {H1 H2 : Hp} {σ : L2.St} {i : Nat} {f : Bool} {d : D} {q : Addr} {ns' : List Int} (S1 : Sim K B G M O H1 σ ρ1) (hi : ρ1[i]? = some (.own f d)) (hq : σ[i]? = some (some (.ref q)))
    (s2 : Stp true (fun a => a = q) H1 H2) (e2 : H2 q = some (.lst (ns'.map V.int))) (z2 : ns'.length ≤ sizeLine) : Stp true O H1 H2 ∧ Sim K B G M O H2 σ (ρ1.set i (.own f (.lst (ns'.map .int)))) := by
  obtain ⟨q', g1, g2, g3, g4⟩ := S1.own i f d hi
  rw [hq] at g1
  cases g1
  have S2 : Sim K B G M O (upd H1 q (.lst (ns'.map V.int))) σ (ρ1.set i (.own f (.lst (ns'.map .int)))) := S1.put hi hq ⟨by rw [List.length_map]; exact z2, _, upd_same, DenL.ofInts ns'⟩
  have keep2 : ∀ {M : Addr → Prop} (_ : True), ∀ a u, ¬ M a → NT u = true → upd H1 q (.lst (ns'.map V.int)) a = some u → H2 a = some u := fun {M} _ a u _ nt e => by
    by_cases z : a = q
    · subst z; rw [upd_same] at e; rw [e2]; exact e
    · rw [upd_ne z] at e; exact s2.k a u (fun _ => z) nt e
  refine ⟨⟨fun a o n nt e => s2.k a o (fun _ z => n rfl (by rw [z]; exact g2)) nt e, s2.d, s2.t⟩, ?_⟩
  have S3 := S2
  refine ⟨S3.len, ⟨fun a o n nt e => ?_, fun a h => s2.d a (S1.ext.d a h), fun p h => s2.t p (S1.ext.t p h)⟩, S1.gd.stp s2, S3.m0, S3.om, fun a h => s2.d a (S1.mn a h), S3.on, fun x hx => (S3.gh x hx).to (fun _ _ z => z) (keep2 trivial), fun i d e => ?_, fun i b d e => ?_, S3.inj, S3.bo⟩
  · have e' := S3.ext.k a o n nt e
    by_cases z : a = q
    · subst z; rw [upd_same] at e'; rw [e2]; exact e'
    · rw [upd_ne z] at e'; exact s2.k a o (fun _ => z) nt e'
  · obtain ⟨v, h1, h2⟩ := S3.val i d e
    exact ⟨v, h1, h2.to (fun _ _ z => z) (keep2 trivial)⟩
  · obtain ⟨p, h1, h2, h3, h4⟩ := S3.own i b d e
    obtain ⟨u, eu, nt, _⟩ := h4.nt
    refine ⟨p, h1, h2, h3, h4.to (fun _ _ z => z) (keep2 trivial) ?_⟩
    rw [eu]
    by_cases z : p = q
    · subst z; rw [upd_same] at eu; rw [e2]; exact eu
    · rw [upd_ne z] at eu; exact s2.k p u (fun _ => z) nt eu
theorem ev_callS0 (i : Nat) {k n : Nat} {y : Str} {py : Pos} {f : Bool} {ns ns' : List Int} {R : List D → List Int → RK → List Int → Prop} {r0 : RK} (C : Cal X.prog X.w X.K X.mg X.base k x (SpS n 0 R X.K)) (hr : Room k X.A) (h : EvA X es ρ rs m ρ1) (hi : ρ1[i]? = some (.own f (.lst (ns.map .int)))) (hR : R (rs.map RK.d) ns r0 ns') 
 (hd : (y == ("__debug__" : Str)) = false := by decide) (hcd : (y == ("__classdict__" : Str)) = false := by decide)
 (hdb : (x == ("__debug__" : Str)) = false := by decide) (he : starEach (.Name y py :: es) X.env = (false, eval (.Name y py) X.env) :: starEach es X.env := by rfl) (hpl : (backTo pos (starEach es X.env)).any (·.1) = false := by rfl) (hg : Gl X x := by rfl) (hN : X.N[i]? = some y := by rfl) (hv : Vis X.env.scope y := by first | exact Or.inl rfl | exact Or.inr (Or.inl rfl) | exact Or.inr (Or.inr rfl)) (h0i : ∃ d, ρ[i]? = some (.own f d) := by exact ⟨_, rfl⟩) (hn : rs.length + 1 = n := by rfl) (hst : rs.all RK.st = true := by rfl) (h0 : r0.st = true := by rfl) :
    Ev X (.Call (.Name x p) (.Name y py :: es) [] pos) ρ r0 true (ρ1.set i (.own f (.lst (ns'.map .int)))) := fun B G M O σ H Q S kk => by
  obtain ⟨g, fd, ps, F, hm, hk, hb⟩ := C.ex
  obtain ⟨d0, h0i⟩ := h0i
  obtain ⟨q, q1, q2, q3, q4⟩ := S.own i f _ h0i
  refine ⟨_, pe_call F hr hg hm hk hb .nil pass0 (pa_cons (pe_var hN hv hd hcd) pa_w he) hdb he hpl, .ref q, q1, h B G M O σ H _ S fun vs H1 s S1 r => ?_⟩
  have l := r.den hst
  have hl := l.length
  rw [List.length_map] at hl
  obtain ⟨q', g1, g2, g3, g4, ws, g5, l2⟩ := S1.own i f _ hi
  rw [q1] at g1
  cases g1
  have ew := l2.ints
  subst ew
  rw [List.length_map] at g4
  show SpS n 0 R X.K ((V.ref q :: vs) ++ []) H1 Q _
  rw [List.append_nil]
  refine ⟨by rw [List.length_cons]; omega, S1.gd, M, q, ns, _, r0, ns', S1.mn, S1.om q g2, rfl, g5, g4, l, hR, h0, fun v H2 s2 e2 z2 r2 => ?_⟩
  obtain ⟨t, S2⟩ := drawn S1 hi q1 s2 e2 z2
  exact kk v H2 (s.up.trans t) S2 (r2.back s S1.om S1.mn)
theorem ev_callS1 (i : Nat) {k n : Nat} {y : Str} {py : Pos} {f : Bool} {ns ns' : List Int} {R : List D → List Int → RK → List Int → Prop} {r0 : RK} (C : Cal X.prog X.w X.K X.mg X.base k x (SpS n 1 R X.K)) (hr : Room k X.A) (ha : Ev X e ρ ra false ρ) (h : EvA X es ρ rs m ρ1) (hi : ρ1[i]? = some (.own f (.lst (ns.map .int)))) (hR : R (ra.d :: rs.map RK.d) ns r0 ns') 
 (hd : (y == ("__debug__" : Str)) = false := by decide) (hcd : (y == ("__classdict__" : Str)) = false := by decide)
 (hdb : (x == ("__debug__" : Str)) = false := by decide) (he : starEach (e :: .Name y py :: es) X.env = (false, eval e X.env) :: starEach (.Name y py :: es) X.env := by rfl) (he2 : starEach (.Name y py :: es) X.env = (false, eval (.Name y py) X.env) :: starEach es X.env := by rfl) (hpl : (backTo pos (starEach (.Name y py :: es) X.env)).any (·.1) = false := by rfl) (hg : Gl X x := by rfl) (hN : X.N[i]? = some y := by rfl) (hv : Vis X.env.scope y := by first | exact Or.inl rfl | exact Or.inr (Or.inl rfl) | exact Or.inr (Or.inr rfl)) (sa : ra.st = true := by rfl) (h0i : ∃ d, ρ[i]? = some (.own f d) := by exact ⟨_, rfl⟩) (hn : rs.length + 2 = n := by rfl) (hst : rs.all RK.st = true := by rfl) (h0 : r0.st = true := by rfl) :
    Ev X (.Call (.Name x p) (e :: .Name y py :: es) [] pos) ρ r0 true (ρ1.set i (.own f (.lst (ns'.map .int)))) := fun B G M O σ H Q S kk => by
  obtain ⟨g, fd, ps, F, hm, hk, hb⟩ := C.ex
  obtain ⟨d0, h0i⟩ := h0i
  refine ⟨_, pe_call F hr hg hm hk hb .nil pass0 (pa_cons pe_w (pa_cons (pe_var hN hv hd hcd) pa_w he2) he) hdb he hpl, ha B G M O σ H _ S fun u H0 s0 S0 ru => ?_⟩
  obtain ⟨q, q1, q2, q3, q4⟩ := S0.own i f _ h0i
  refine ⟨.ref q, q1, h B G M O σ H0 _ S0 fun vs H1 s S1 r => ?_⟩
  have l := r.den hst
  have hl := l.length
  rw [List.length_map] at hl
  have du := (ru.stp s0 s (by rw [sa]; rfl) S.om S.mn).den sa S.mn
  obtain ⟨q', g1, g2, g3, g4, ws, g5, l2⟩ := S1.own i f _ hi
  rw [q1] at g1
  cases g1
  have ew := l2.ints
  subst ew
  rw [List.length_map] at g4
  show SpS n 1 R X.K ((u :: V.ref q :: vs) ++ []) H1 Q _
  rw [List.append_nil]
  refine ⟨by rw [List.length_cons, List.length_cons]; omega, S1.gd, M, q, ns, _, r0, ns', S1.mn, S1.om q g2, rfl, g5, g4, .cons du l, hR, h0, fun v H2 s2 e2 z2 r2 => ?_⟩
  obtain ⟨t, S2⟩ := drawn S1 hi q1 s2 e2 z2
  exact kk v H2 ((s0.up.trans s.up).trans t) S2 (r2.back (s0.trans s) S1.om S1.mn)
end

/-! ### a def keeps its promise -/
section
variable {P : Program} {w : World} {K : PySem.W.Frag} {mg : Str → Option Value} {base : Heap}
/-- the context of a def's body -/
def xOf (P : Program) (w : World) (K : PySem.W.Frag) (mg : Str → Option Value) (base : Heap) (N : List Str) (qual : Str) (sc : Scope) (f : Addr) (cdv : Value) (A : Around) (outer : List Env) (s : Shared) (H : Hp) (E : XK) : Cx := (cxOf CX0 P w K mg base N qual sc f cdv A outer s H E).nox
def rho0 (N : List Str) (ds : List Sl) : En := ds ++ List.replicate (N.length - ds.length) .no
/-- a def that changes nothing: what its body is to reach -/
def PoP (r : RK) : Po := { nx := fun _ => r = .v .non, rt := fun r' _ => r' = r }
theorem startSim {N : List Str} {H : Hp} {M : Addr → Prop} {ds : List D} {vs : List V} (gd : Good K H) (mn : ∀ a, M a → H a ≠ none) (l : DenL K M H ds vs) : Sim K ⟨H, M, fun _ => False⟩ [] M (fun _ => False) H (L2.start N vs) (rho0 N (ds.map .val)) := by
  have hl := l.length
  refine ⟨?_, Stp.refl, gd, fun _ h => h, fun _ h => h.elim, mn, fun _ h => h.elim, fun x hx => by simp at hx, fun i d e => ?_, fun i b d e => ?_, fun i j b c d e p h => ?_, fun _ h => h.elim⟩
  · unfold L2.start rho0
    simp only [List.length_append, List.length_map, List.length_replicate]
    omega
  · unfold L2.start rho0 at *
    by_cases hi : i < ds.length
    · rw [List.getElem?_append_left (by rw [List.length_map]; exact hi), List.getElem?_map] at e
      rw [List.getElem?_append_left (by rw [List.length_map]; omega), List.getElem?_map]
      cases q : ds[i]? with
      | none => rw [q] at e; cases e
      | some d' =>
        rw [q] at e
        cases e
        obtain ⟨v, h1, h2⟩ := l.get q
        exact ⟨v, by rw [h1]; rfl, h2⟩
    · rw [List.getElem?_append_right (by rw [List.length_map]; omega), List.getElem?_replicate] at e
      split at e <;> cases e
  all_goals
    exfalso
    unfold rho0 at *
  · by_cases hi : i < ds.length
    · rw [List.getElem?_append_left (by rw [List.length_map]; exact hi), List.getElem?_map] at e
      cases q : ds[i]? with
      | none => rw [q] at e; cases e
      | some d' => rw [q] at e; cases e
    · rw [List.getElem?_append_right (by rw [List.length_map]; omega), List.getElem?_replicate] at e
      split at e <;> cases e
  · by_cases hi : i < ds.length
    · rw [List.getElem?_append_left (by rw [List.length_map]; exact hi), List.getElem?_map] at h
      cases q : ds[i]? with
      | none => rw [q] at h; cases h
      | some d' => rw [q] at h; cases h
    · rw [List.getElem?_append_right (by rw [List.length_map]; omega), List.getElem?_replicate] at h
      split at h <;> cases h
theorem fn_P {x qual : Str} {st : Stmt} {f : Addr} {fd : FuncData} {N ps : List Str} {k n : Nat} {R : List D → RK → Prop} (F : Fun K x qual st f fd) (Sc : FnScope N ps (defScope st)) (hn : ps.length = n) (hR : ∀ ds r, R ds r → ds.length = n)
    (hbody : ∀ (cdv : Value) (A : Around) (outer : List Env) (s : Shared) (H : Hp) (E : XK) (ds : List D) (r : RK), Room k (xOf P w K mg base N qual (defScope st) f cdv A outer s H E).A → R ds r →
      SS (xOf P w K mg base N qual (defScope st) f cdv A outer s H E) (defBody st) (PoP r) (rho0 N (ds.map .val))) : FnOk P w K mg base CX0 (k + 1) f fd ps (SpP n R K) := by
  refine F.ok Sc (fun vs H Q E h => by rw [h.1, hn]) fun cdv A outer s H vs Q E hr h => ?_
  obtain ⟨hv, gd, M, ds, r, mn, l, hRr, hst, q⟩ := h
  have hl := l.length
  refine ⟨_, pss_w, ?_⟩
  refine hbody cdv A outer s H E ds r hr hRr ⟨H, M, fun _ => False⟩ [] M (fun _ => False) _ H _ (startSim gd mn l) ⟨fun ρ M' O' σ' H' h S => ?_, fun r' ρ M' O' σ' H' v h S hv => ?_, fun ρ M' O' σ' H' h S => h.elim, fun ρ M' O' σ' H' h S => h.elim⟩
  · have hx : Stp false M H H' := ⟨fun a o _ nt e => S.ext.k a o (fun _ z => z) nt e, S.ext.d, S.ext.t⟩
    have hr' : r = .v .non := h
    subst hr'
    exact q .non H' hx .non
  · have hr' : r' = r := h
    subst hr'
    exact q v H' ⟨fun a o _ nt e => S.ext.k a o (fun _ z => z) nt e, S.ext.d, S.ext.t⟩ hv
end
end N50
/-! text G1 -/
set_option maxHeartbeats 4000000
namespace N50
open PySem PySem.Spec PyProof.Rows L2
open PySem.AutoSeq1 (wpAny_loadPart')

/-! ### enumerate of a tuple -/
theorem enumT_new (t : Addr) (items : Array Value) (n : Nat) (dct : Option Addr) (sl : Array (Option Value)) :
    Meets (Builtin.«enumerate.__new__» ⟨[.type "enumerate", .ref t], []⟩) (fun _ R s => s.heap.get? t = some { cls := .type "tuple", dict := dct, data := .seq items n, slots := sl } ∧
      R (.ok (.ret (.ref (s.heap.push { cls := .type "tuple_iterator", data := .fields #[.ref t, .int 0 0] }).objs.size)))
        { s with heap := (s.heap.push { cls := .type "tuple_iterator", data := .fields #[.ref t, .int 0 0] }).push { cls := .type "enumerate", data := .fields #[.none, .bool false, .ref s.heap.objs.size, rawInt 0, .none, .none] } }) :=
  .of_wp fun prog w A R s hh => by
    obtain ⟨hp, gg, dd, tk, os⟩ := s; obtain ⟨ht, hr⟩ := hh
    have hsub := sub_enumerate
    have hT : Heap.IsTuple (Shared.heap ⟨hp, gg, dd, tk, os⟩) t items := ⟨_, ht, rfl, n, rfl⟩
    wp_walk using wpAny_loadPart' ht
    refine wpAny_stack_any fun st => wpAny_pure ?_
    split
    · rename_i c _ _ _ _ _
      cases (c == Value.type "enumerate")
      · wp_walk using wpAny_loadPart' ht, wpAny_pyIter_tuple hT
        exact ⟨_, rfl, hr⟩
      · wp_walk using wpAny_loadPart' ht, wpAny_pyIter_tuple hT
        exact ⟨_, rfl, hr⟩
    · wp_walk using wpAny_loadPart' ht, wpAny_pyIter_tuple hT
      exact ⟨_, rfl, hr⟩
section
variable {prog : Program} {w : World} {A : Around} {E : Value → Shared → Prop} {s : Shared}
theorem enumT_call {t : Addr} {items : Array Value} {Q : Value → Shared → Prop} (hT : s.heap.IsTuple t items)
    (k : ∀ h', IsEnum h' (s.heap.objs.size + 1) s.heap.objs.size 0 .none → h'.IsTupleIter s.heap.objs.size t 0 →
      (∀ b o, s.heap.get? b = some o → h'.get? b = some o) → Q (.ref (s.heap.objs.size + 1)) { s with heap := h' }) :
    wpAny (model prog w) A (call (.type "enumerate") [.ref t]) Q E s := by
  obtain ⟨⟨c, dct, dt, sl⟩, ht, hc, n, hd⟩ := hT
  replace hc : c = .type "tuple" := hc
  replace hd : dt = .seq items n := hd
  subst hc hd
  refine callType_new F.called_enumerate (by decide) (F.typeCall_enumerate_1 _) (F.newCall_enumerate_1 _) (fun obj => F.args_object_init_2 obj _) F.entry_enumerate_new (enumT_new t items n dct sl) ⟨ht, ?_⟩
  have hz : (s.heap.push { cls := .type "tuple_iterator", data := .fields #[.ref t, .int 0 0] }).objs.size = s.heap.objs.size + 1 := Heap.size_push ..
  show _ ∧ _
  rw [hz]
  have he : IsEnum ((s.heap.push { cls := .type "tuple_iterator", data := .fields #[.ref t, .int 0 0] }).push { cls := .type "enumerate", data := .fields #[.none, .bool false, .ref s.heap.objs.size, rawInt 0, .none, .none] }) (s.heap.objs.size + 1) s.heap.objs.size 0 .none := by
    have q := Heap.get?_push_size (s.heap.push { cls := .type "tuple_iterator", data := .fields #[.ref t, .int 0 0] }) (o := { cls := .type "enumerate", data := .fields #[.none, .bool false, .ref s.heap.objs.size, rawInt 0, .none, .none] }) rfl
    rwa [hz] at q
  exact ⟨⟨_, he, rfl⟩, k _ he ⟨_, Heap.get?_push_of_some _ (Heap.get?_push_size _ rfl), rfl, rfl⟩ fun b o x => Heap.get?_push_of_some _ (Heap.get?_push_of_some _ x)⟩
end
/-- the tuple at a, each item in a new pair with its place -/
def Itet (K : PySem.W.Frag) (a : Addr) : It :=
  ⟨fun i H => ∃ (xs : List V) (x : V), SqT K H a xs ∧ xs[i]? = some x, fun i H v H' => ∃ T x, v = .ref T ∧ H T = none ∧ H' = upd H T (.tup [.int (i : Nat), x]) ∧ ∀ xs, SqT K H a xs → xs[i]? = some x, fun i H => ∃ xs : List V, SqT K H a xs ∧ xs.length = i⟩
theorem turn_et {P : Program} {w : World} {K : PySem.W.Frag} {elts : List Expr} {kk : Nat} {tpos : Pos} (a e it : Addr) (hai : a ≠ it) (hae : a ≠ e) :
    Turn P w K (.Tuple elts kk tpos) (Itet K a) [e, it] e (fun i h => (∃ old, IsEnum h e it ((i : Nat) : Int) old) ∧ h.IsTupleIter it a i ∧ e ≠ it) where
  mem := by simp
  obj := fun i h st b hb => by
    obtain ⟨⟨old, he⟩, ⟨o, ho, hc, hd⟩, _⟩ := st
    rcases (show b = e ∨ b = it by simpa using hb) with z | z
    · rw [z]; exact ⟨_, he, fun v q => nomatch q⟩
    · rw [z]; exact ⟨o, ho, fun v q => by rw [hd] at q; cases q⟩
  keep := fun i h h' st k => ⟨let ⟨old, he⟩ := st.1; ⟨old, k e (by simp) _ he⟩, st.2.1.at fun o q => k it (by simp) o q, st.2.2⟩
  item := by
    intro X hP hw hK hc i pins s σ H E I hf st hg
    subst hP hw hK
    obtain ⟨⟨old, he⟩, hit, hne⟩ := st
    obtain ⟨xs, x, hq, hx⟩ := hg
    obtain ⟨its, rv, p, hz⟩ := I.tuple hq
    obtain ⟨u, hu, ru⟩ := rv.get hx
    have hel : e < s.heap.objs.size := Heap.lt_size he
    have hil : it < s.heap.objs.size := by obtain ⟨_, q, _⟩ := hit; exact Heap.lt_size q
    have hlen : i < its.toArray.size := by
      have := (List.getElem?_eq_some_iff.mp hu).1
      simpa using this
    refine wpAny_pyNext_enum_itemC (Draws.tuple (show X.A.in1.handled = none from I.ok.hd hc) it a hai its.toArray) he ⟨hit, p⟩ hlen hne (by simp [hne, Ne.symm hae]) fun x' h' tk hx' ho hst hT hsz hk => ?_
    have ex : x' = u := by
      have q : its.toArray[i]? = some x' := hx'
      rw [List.getElem?_toArray, hu] at q
      exact (Option.some.inj q).symm
    subst ex
    refine ⟨_, rfl, wpAny_letOwnedTupleGo_enum (s := { s with heap := h', toks := tk + 1 }) ho fun h'' he' sb => ?_⟩
    have hT2 : h''.get? s.heap.objs.size = some { cls := .type "tuple", data := .seq #[.int i tk, x'] } := (sb.2 _ (Nat.ne_of_gt hel)).trans hT
    have new : ObjOk X.prog X.w (upd H s.heap.objs.size (.tup [.int (i : Nat), x])) h'' s.heap.objs.size (.tup [.int (i : Nat), x]) :=
      ⟨by show 2 ≤ sizeLine; decide, [.int i tk, x'], .cons ⟨_, rfl⟩ (.cons ru .nil), ⟨_, hT2, rfl, _, rfl⟩⟩
    have I1 : Inv X pins σ (upd H s.heap.objs.size (.tup [.int (i : Nat), x])) { s with heap := h'', toks := tk + 1 } :=
      I.turnedNew (ch := [e, it]) (fun b ob hb q => (sb.2 b (fun z => hb (by simp [z]))).trans (hk b ob (fun z => hb (by simp [z])) (fun z => hb (by simp [z])) q)) hf (Nat.le_refl _) new
    refine ⟨.ref s.heap.objs.size, _, I1, rfl, ⟨_, x, rfl, I.hok.fresh (Nat.le_refl _), rfl, fun ys hy => by rw [I.tuple_inj hy hq]; exact hx⟩, ⟨⟨x', ?_⟩, hst.1.at fun o q => (sb.2 it (Ne.symm hne)).trans q, hne⟩, fun b hb => ?_⟩
    · rw [show ((i + 1 : Nat) : Int) = (i : Int) + 1 by omega]; exact he'
    · have hb' : b < s.heap.objs.size := by
        rcases (show b = e ∨ b = it by simpa using hb) with z | z
        · rw [z]; exact hel
        · rw [z]; exact hil
      rw [upd_ne (Nat.ne_of_lt hb')]
      exact (hf b hb).1
  done := by
    intro X hP hw hK hc i pins s σ H E I hf st hg
    subst hP hw hK
    obtain ⟨⟨old, he⟩, hit, hne⟩ := st
    obtain ⟨xs, hq, hx⟩ := hg
    obtain ⟨its, rv, p, hz⟩ := I.tuple hq
    obtain ⟨f0, f1, f2, f3, f4, f5⟩ := hf it (by simp)
    have hl := rv.length
    have hsz : its.toArray.size = i := by rw [List.size_toArray]; omega
    exact wpAny_pyNext_enum_endD (Draws.tuple (show X.A.in1.handled = none from I.ok.hd hc) it a hai its.toArray) he ⟨by rw [hsz]; exact hit, p⟩ fun h' eb => ⟨rfl, I.turned (t' := s.toks) (fun b o hb q => eb b o hb q) f0 f1 f3 f4 f5⟩
  self := fun A i s Q E st h => let ⟨⟨_, he⟩, _⟩ := st; wpAny_pyIter_enum he h
def iEt (K : PySem.W.Frag) (ta : TA) : TI := fun σ H R => ta σ H fun vs H1 => ∃ a xs, vs = [.ref a] ∧ SqT K H1 a xs ∧ R (Itet K a) H1
theorem pi_et {X : Cx} {e : Expr} {ta : TA} {p pos tpos : Pos} {elts : List Expr} {kk : Nat} (hg : Gl X "enumerate") (hm : X.mg "enumerate" = none) (ha : PA X [e] ta) (hs : starEach [e] X.env = [(false, eval e X.env)] := by rfl) :
    PI X (.Tuple elts kk tpos) (.Call (.Name "enumerate" p) [e] [] pos) (iEt X.K ta) := by
  refine ⟨fun pins s σ H R I h => ?_⟩
  refine Call_ (ld_blt I hg hm boot_enumerate (PyProof.Rows.callWith_type1 (thn (ha.run pos pins s σ H _ I h) fun us s1 ⟨vs, H1, I1, r1, q1⟩ => ?_) hs rfl))
  obtain ⟨a, xs, ex, hq, q⟩ := q1
  subst ex
  cases r1 with
  | cons r rr =>
    cases rr
    cases r
    obtain ⟨its, rv, p', hz⟩ := I1.tuple hq
    obtain ⟨oa, hoa, _⟩ := id p'
    have hal : a < s1.heap.objs.size := Heap.lt_size hoa
    refine enumT_call p' fun h' he hit hk => wpAny_pyIter_enum he ?_
    have I2 : Inv X pins σ H1 { s1 with heap := h' } := I1.kept (t' := s1.toks) hk
    refine ⟨s1.heap.objs.size + 1, [s1.heap.objs.size + 1, s1.heap.objs.size], _, _, H1, rfl, I2, turn_et a (s1.heap.objs.size + 1) s1.heap.objs.size (Nat.ne_of_lt hal) (Nat.ne_of_lt (Nat.lt_succ_of_lt hal)), ⟨⟨.none, he⟩, hit, Nat.succ_ne_self _⟩, fun b hb => ?_, q⟩
    have hle : s1.heap.objs.size ≤ b := by
      rcases (show b = s1.heap.objs.size + 1 ∨ b = s1.heap.objs.size by simpa using hb) with z | z
      · rw [z]; exact Nat.le_add_right _ _
      · rw [z]; exact Nat.le_refl _
    exact I1.fpOk hle (I1.hok.fresh hle)
section
variable {X : Cx} {a : Expr} {es : List Expr} {ρ ρ1 : En} {m : Bool} {pos p p2 tpos : Pos} {r : RK} {kk : Nat}
/-- enumerate(t), t a tuple -/
theorem ei_enum {α : Type} {xs : List α} {enc : α → D} (h : Ev X a ρ r m ρ1) (e : r.d = .tup (xs.map enc)) (hm : X.mg "enumerate" = none) (st : r.st = true := by rfl) (hg : Gl X "enumerate" := by rfl) (he : starEach [a] X.env = (false, eval a X.env) :: starEach [] X.env := by rfl) (hs : starEach [a] X.env = [(false, eval a X.env)] := by rfl) :
    EvI X (.Tuple es kk tpos) (.Call (.Name "enumerate" p) [a] [] pos) ρ (xs.zipIdx.map fun q => D.tup [.int (q.2 : Nat), enc q.1]) m ρ1 := fun B G M O σ H R S k =>
  ⟨_, pi_et hg hm (pa_cons pe_w pa_nil he) hs, h B G M O σ H _ S fun v H1 s S1 r1 => by
    have hd := r1.den st S.mn
    rw [e] at hd
    obtain ⟨q, vs, rfl, e1, l, z, n⟩ := den_tup hd
    refine ⟨q, vs, rfl, (.inl e1), k _ H1 [(.tup (xs.map enc), .ref q)] s S1 (fun x hx => by
      have : x = (.tup (xs.map enc), .ref q) := by simpa using hx
      rw [this]; exact hd) (by rw [List.length_map] at z ⊢; rwa [List.length_zipIdx]) fun M2 H2 mn2 hg => ?_⟩
    obtain ⟨q', vs', e0, e', l', z', n'⟩ := den_tup (hg (.tup (xs.map enc), .ref q) (by simp))
    cases e0
    refine ⟨fun i d hi => ?_, ⟨vs', (.inl e'), by rw [← l'.length, List.length_map, List.length_map, List.length_zipIdx]⟩⟩
    rw [List.getElem?_map, List.getElem?_zipIdx] at hi
    cases hx : xs[i]? with
    | none => rw [hx] at hi; cases hi
    | some x =>
      rw [hx] at hi
      have ed : d = .tup [.int ((0 + i : Nat) : Nat), enc x] := (Option.some.inj hi).symm
      rw [Nat.zero_add] at ed
      subst ed
      obtain ⟨v, ev, dv⟩ := l'.get (i := i) (d := enc x) (by rw [List.getElem?_map, hx]; rfl)
      refine ⟨⟨vs', v, (.inl e'), ev⟩, fun y H3 hy => ?_⟩
      obtain ⟨T, x', rfl, hT, rfl, hu⟩ := hy
      have ex : x' = v := Option.some.inj ((hu vs' ((.inl e'))).symm.trans ev)
      subst ex
      exact ⟨Stp.new hT, newT hT mn2 (by show 2 ≤ sizeLine; decide) (.cons (.int _) (.cons dv .nil))⟩⟩
/-- set(t) of a tuple of ints -/
def rSetI (K : PySem.W.Frag) (w : World) : List V → Hp → VK → Prop := fun vs H Q => ∃ (q : Addr) (ns : List Int), vs = [.ref q] ∧ SqT K H q (ns.map V.int) ∧ ns.length ≤ 1000 ∧ ∀ (b : Addr) (c : Nat), H b = none → c ≤ ns.length → Q (.ref b) (upd H b (SetO w b (fun j => decide (j ∈ ns)) c))
theorem cr_setI (hc : X.calm = true) : CallR X (.type "set") (rSetI X.K X.w) := by
  intro pins s σ H vs us Q I r h
  obtain ⟨q, ns, rfl, hq, hz, k⟩ := h
  rw [Vals.ref1 r]
  obtain ⟨its, rv, p, _⟩ := I.tuple hq
  refine call_set_tupI (P := X.prog) (w := X.w) ns (I.ok.hd hc) (show s.heap.IsTuple q its.toArray from p) (by have := rv.ints; simpa using this) (Nat.lt_of_le_of_lt (Nat.succ_le_succ hz) (by decide)) fun h' tk c R hcl hk => ?_
  exact ⟨.ref s.heap.objs.size, _, I.laid (t' := tk) hk (Nat.le_refl _) (setO_new R), rfl, k _ c (I.hok.fresh (Nat.le_refl _)) hcl⟩
theorem sorted_lt {ns ms : List Int} (h1 : ns.Pairwise (· < ·)) (h2 : ms.Pairwise (· < ·)) (h : ∀ k, k ∈ ns ↔ k ∈ ms) : ns = ms := by
  have n1 : ns.Nodup := h1.imp (fun h => Int.ne_of_lt h)
  have n2 : ms.Nodup := h2.imp (fun h => Int.ne_of_lt h)
  have p : ns.Perm ms := (List.perm_ext_iff_of_nodup n1 n2).mpr h
  exact List.Perm.eq_of_pairwise (le := fun a b => a ≤ b) (fun a b _ _ h1 h2 => Int.le_antisymm h1 h2) (h1.imp Int.le_of_lt) (h2.imp Int.le_of_lt) p
/-- sorted(set(t)) -/
theorem ev_sset {ns ms : List Int} (h : Ev X a ρ r m ρ1) (e : r.d = .tup (ns.map .int)) (h1 : ms.Pairwise (· < ·)) (h2 : ∀ k, k ∈ ms ↔ k ∈ ns) (hz : ns.length ≤ 63) (hm : X.mg "sorted" = none) (hm2 : X.mg "set" = none) (hc : X.calm = true := by rfl) (hg : Gl X "sorted" := by rfl) (hg2 : Gl X "set" := by rfl)
    (he : starEach [a] X.env = (false, eval a X.env) :: starEach [] X.env := by rfl) (he2 : starEach [.Call (.Name "set" p2) [a] [] tpos] X.env = (false, eval (.Call (.Name "set" p2) [a] [] tpos) X.env) :: starEach [] X.env := by rfl) :
    Ev X (.Call (.Name "sorted" p) [.Call (.Name "set" p2) [a] [] tpos] [] pos) ρ (.n (.lst (ms.map .int))) m ρ1 := fun B G M O σ H Q S k =>
  ⟨_, pe_callB (cr_sortedSet hc) hg hm (by decide +kernel) (pa_cons (pe_callTy (cr_setI hc) hg2 hm2 (by decide +kernel) (pa_cons pe_w pa_nil he) (by decide) (by decide) he rfl) pa_nil he2) (by decide) (by decide) he2 rfl,
    h B G M O σ H _ S fun v H1 s S1 r1 => by
    have hd := r1.low
    rw [e] at hd
    obtain ⟨q, vs, rfl, e1, l, z, n⟩ := den_tup hd
    have ev := l.ints
    subst ev
    refine ⟨q, ns, rfl, (.inl e1), by omega, fun b c hb hcl => ?_⟩
    refine ⟨b, _, c, rfl, upd_same, by omega, fun ks p2 hp hk hlen hp2 => ?_⟩
    have ek : ks = ms := sorted_lt hp h1 fun k => by rw [hk k, decide_eq_true_eq, h2 k]
    subst ek
    have hbp : H1 p2 = none := by
      by_cases z : p2 = b
      · rw [z, upd_same] at hp2; cases hp2
      · rwa [upd_ne z] at hp2
    have st2 : Stp m O H (upd (upd H1 b (SetO X.w b (fun j => decide (j ∈ ns)) c)) p2 (.lst (ks.map V.int))) := st_alloc (st_alloc s hb) hp2
    refine k _ _ st2 ((S1.new hb).new hp2) ⟨p2, rfl, s.fresh S1.om S1.mn hbp, newL hp2 ?_ (DenL.ofInts ks)⟩
    have hle : ks.length ≤ ns.length := by omega
    rw [List.length_map, sizeLine_eq]
    omega⟩
end
end N50
/-! text W1 -/
set_option maxHeartbeats 4000000
namespace N50
open PySem PySem.Spec PyProof.Rows L2
/-! ### the text by places -/
def topS (i : Nat) : Stmt := PySem.Challenge.pw_nochaingains_k50_whole_rest_means_told_o.main.body.getD i (.Pass ⟨0, 0, 0, 0⟩)
/-- the names of the built-ins stand free -/
structure Bt (mg : Str → Option Value) : Prop where
  len : mg "len" = none
  tuple : mg "tuple" = none
  list : mg "list" = none
  sorted : mg "sorted" = none
  set : mg "set" = none
  enumerate : mg "enumerate" = none
  zip : mg "zip" = none
  range : mg "range" = none
  min : mg "min" = none
  abs : mg "abs" = none
  sum : mg "sum" = none
  all : mg "all" = none
  int : mg "int" = none
  isinstance : mg "isinstance" = none
  bool : mg "bool" = none

/-! ### data of the program -/
abbrev eL (ns : List Int) : D := .lst (ns.map .int)
abbrev eT (ns : List Int) : D := .tup (ns.map .int)
abbrev eCon (c : Con) : D := .tup [.int c.s, .int c.b, .int c.p]
abbrev eGrp (g : List Int × Int) : D := .tup [eT g.1, .int g.2]
abbrev ePl : Pl → D
  | .maker r b s => .tup [.str "maker", .int r, eT b, eT s]
  | .sides r b q s => .tup [.str "sides", .int r, eT b, .int q, eT s]
  | .table rows => .tup [.str "table", .tup (rows.map eT)]
  | .trader r c b s => .tup [.str "trader", .int r, .int c, eT b, eT s]
  | .caps b bg s sg => .tup [.str "caps", eT b, .tup (bg.map eGrp), eT s, .tup (sg.map eGrp)]
abbrev eCh : Ch → D
  | .pl p => ePl p
  | .split ps => .tup [.str "split", .tup (ps.map ePl)]
abbrev eHs (q : Str × Ch) : D := .tup [.str q.1, eCh q.2]
abbrev eWeb (w : Web) : D := .tup [.tup (w.hs.map eHs), .tup (w.cs.map eCon)]

abbrev s_buys_of : Stmt := topS 1
theorem sc_buys_of : FnScope ["web", "house", "number", "contract"] ["web", "house"] (defScope s_buys_of) := ⟨rfl, rfl, rfl, by decide +kernel, rfl, by decide +kernel, by decide +kernel⟩
abbrev s_sells_of : Stmt := topS 2
theorem sc_sells_of : FnScope ["web", "house", "number", "contract"] ["web", "house"] (defScope s_sells_of) := ⟨rfl, rfl, rfl, by decide +kernel, rfl, by decide +kernel, by decide +kernel⟩
abbrev s_own_contracts : Stmt := topS 3
theorem sc_own_contracts : FnScope ["web", "house", "number", "contract"] ["web", "house"] (defScope s_own_contracts) := ⟨rfl, rfl, rfl, by decide +kernel, rfl, by decide +kernel, by decide +kernel⟩
def R_wh (F : List Con → Int → List Int) : List D → RK → Prop := fun ds r => ∃ (w : Web) (h : Int), ds = [eWeb w, .int h] ∧ r = .v (eT (F w.cs h))
theorem mmI {α : Type} (g : α → Int) (l : List α) : (l.map g).map D.int = l.map fun q => D.int (g q) := List.map_map
section
variable {P : Program} {w : World} {K : PySem.W.Frag} {mg : Str → Option Value} {base : Heap} {f : Addr} {fd : FuncData}
theorem ok_buys_of (F : Fun K "buys_of" "buys_of" s_buys_of f fd) (T : Bt mg) : FnOk P w K mg base CX0 1 f fd ["web", "house"] (SpP 2 (R_wh buysOf) K) := by
  refine fn_P F sc_buys_of rfl (fun ds r h => ?_) fun cdv A outer s H E ds r hr h => ?_
  · obtain ⟨w, h, rfl, _⟩ := h; rfl
  · obtain ⟨w, h, rfl, rfl⟩ := h
    have nd := sc_buys_of.nd
    refine ss_ret (ev_tuple (ev_lc (fun q => decide (q.1.b = h)) (fun q => .int (q.2 : Nat)) [("number", 2), ("contract", 3)] nd (EvI.pure (ei_enum (xs := w.cs) (enc := eCon) (ev_ix (ev_n 0 rfl) ev_i rfl rfl) rfl T.enumerate))
      (fun x hx => ⟨_, fun s H C cl fp => (eg_t (egs_n 2 nd (egs_n 3 nd egs_nil))), fun s H C cl fp => (ets_one (et_c (ec_eq (ev_ix (ev_n 3 rfl) ev_i rfl rfl) (ev_n 1 rfl) (.int _ _)))), fun _ => ⟨_, fun s H C cl fp => (ev_n 2 rfl), rfl, rfl⟩⟩)) T.tuple) ⟨_, .inl rfl, ?_⟩
    show RK.v _ = RK.v _
    unfold buysOf
    rw [eT, mmI]
    rfl
end
end N50
/-! text W2 -/
set_option maxHeartbeats 4000000
namespace N50
open PySem PySem.Spec PyProof.Rows L2
/-! ### loops as folds -/
section
variable {X : Cx} {tg iter : Expr} {rest body : List Stmt} {P : Po} {ρ ρ0 : En} {m : Bool} {pos : Pos}
theorem ss_forF {α T : Type} {xs : List α} {enc : α → D} (E : T → En) (f : T → α → T) (I : Nat → T → Prop) (s0 : T) (hp : PassesOwn (model X.prog X.w) X.A X.env X.xe) (hi : EvI X tg iter ρ (xs.map enc) m ρ0) (h0 : I 0 s0) (l0 : Le (E s0) ρ0)
 (step : ∀ i x s, xs[i]? = some x → I i s → I (i + 1) (f s x) ∧ ∃ js ρ1, EvG X tg (enc x) js (E s) ρ1 ∧ SS X body { P with nx := fun ρ => Le (E (f s x)) ρ, ct := fun ρ => Le (E (f s x)) ρ, bk := fun ρ => SS X rest P ρ } ρ1)
 (done : I xs.length (xs.foldl f s0) → SS X rest P (E (xs.foldl f s0))) (hc : X.calm = true := by rfl) (hs : ∀ x, foldedSetIterable iter X.env x = pure x := by intro _; rfl) : SS X (.For tg iter body [] pos :: rest) P ρ := by
  refine ss_for (xs := xs) (enc := enc) E (fun i s => I i s ∧ s = (xs.take i).foldl f s0) s0 hp hi ⟨h0, by simp⟩ l0 (fun i x s hx hJ => ?_) (fun s hJ => ?_) hc hs
  · obtain ⟨h1, h2⟩ := hJ
    obtain ⟨h3, js, ρ1, eg, hb⟩ := step i x s hx h1
    have e : f s x = (xs.take (i + 1)).foldl f s0 := by
      rw [List.take_succ, hx, Option.toList, List.foldl_append, ← h2]; rfl
    exact ⟨js, ρ1, eg, hb.mono (fun ρ l => ⟨_, ⟨h3, e⟩, l⟩) (fun _ _ z => z) (fun _ z => z) (fun ρ l => ⟨_, ⟨h3, e⟩, l⟩)⟩
  · obtain ⟨h1, h2⟩ := hJ
    rw [List.take_length] at h2
    subst h2
    exact done h1
end
section
variable {X : Cx} {a tg : Expr} {ρ ρ1 : En} {m : Bool} {r : RK} {ds : List D}
theorem ei_sq (h : Ev X a ρ r m ρ1) (e : r.d.its = ds) (hs : r.d.seq = true := by rfl) (st : r.st = true := by rfl) : EvI X tg a ρ ds m ρ1 := e ▸ ei_seq h hs st
theorem ep_sq (h : Ev X a ρ r m ρ1) (e : r.d.its = ds) (hs : r.d.seq = true := by rfl) (st : r.st = true := by rfl) : EvP X tg a ρ ds m ρ1 := (ei_sq h e hs st).pure
end
theorem drop_cons {α : Type} {xs : List α} {i : Nat} {x : α} (h : xs[i]? = some x) : xs.drop i = x :: xs.drop (i + 1) := by
  obtain ⟨hi, e⟩ := List.getElem?_eq_some_iff.mp h
  rw [List.drop_eq_getElem_cons hi, e]
theorem drop_all {α : Type} (xs : List α) : xs.drop xs.length = [] := List.drop_eq_nil_of_le (Nat.le_refl _)

theorem lenI (a : Int) (ns : List Int) : D.int (a - (((ns.map D.int).length : Nat) : Int)) = D.int (a - ((ns.length : Nat) : Int)) := by rw [List.length_map]
theorem lt_of_get {α : Type} {xs : List α} {i : Nat} {x : α} (h : xs[i]? = some x) : i < xs.length := (List.getElem?_eq_some_iff.mp h).1
abbrev s_offered_of : Stmt := topS 6
theorem sc_offered_of : FnScope ["row", "offered", "contract"] ["row", "offered"] (defScope s_offered_of) := ⟨rfl, rfl, rfl, by decide +kernel, rfl, by decide +kernel, by decide +kernel⟩
abbrev s_chosen_row : Stmt := topS 7
theorem sc_chosen_row : FnScope ["rows", "offered", "row", "contract"] ["rows", "offered"] (defScope s_chosen_row) := ⟨rfl, rfl, rfl, by decide +kernel, rfl, by decide +kernel, by decide +kernel⟩
abbrev s_within_caps : Stmt := topS 9
theorem sc_within_caps : FnScope ["row", "groups", "offered", "found", "contract", "caps", "group", "cap"] ["row", "groups", "offered"] (defScope s_within_caps) := ⟨rfl, rfl, rfl, by decide +kernel, rfl, by decide +kernel, by decide +kernel⟩
def R_offered_of : List D → RK → Prop := fun ds r => ∃ (a b : D) (xs ys : List Int), ds = [a, b] ∧ a.seq = true ∧ b.seq = true ∧ a.its = xs.map .int ∧ b.its = ys.map .int ∧ r = .n (eL (offer xs ys))
def R_chosen_row : List D → RK → Prop := fun ds r => ∃ (rows : List (List Int)) (b : D) (ys : List Int), ds = [.tup (rows.map eT), b] ∧ b.seq = true ∧ b.its = ys.map .int ∧ r = .n (eL (chosenRow rows ys))
def R_within_caps : List D → RK → Prop := fun ds r => ∃ (row : List Int) (gs : List (List Int × Int)) (b : D) (ys : List Int), ds = [eT row, .tup (gs.map eGrp), b] ∧ b.seq = true ∧ b.its = ys.map .int ∧ row.length ≤ 1000 ∧ r = .n (eL (withinCaps row gs ys))
section
variable {P : Program} {w : World} {K : PySem.W.Frag} {mg : Str → Option Value} {base : Heap} {f : Addr} {fd : FuncData}
theorem ok_offered_of (F : Fun K "offered_of" "offered_of" s_offered_of f fd) : FnOk P w K mg base CX0 1 f fd ["row", "offered"] (SpP 2 R_offered_of K) := by
  refine fn_P F sc_offered_of rfl (fun ds r h => ?_) fun cdv A outer s H E ds r hr h => ?_
  · obtain ⟨a, b, xs, ys, rfl, _⟩ := h; rfl
  · obtain ⟨a, b, xs, ys, rfl, ha, hb, ea, eb, rfl⟩ := h
    have nd := sc_offered_of.nd
    refine ss_ret (ev_lc (xs := xs) (enc := .int) (fun x => decide (x ∈ ys)) .int [("contract", 2)] nd (EvI.pure (ea ▸ ei_seq (ev_n 0 rfl) ha)) (js := [2]) fun x hx => ?_) ⟨_, .inl rfl, rfl⟩
    exact ⟨_, fun s H C cl fp => eg_n 2 nd, fun s H C cl fp => ets_one (et_c (ec_in (ev_n 2 rfl) (ev_n 1 rfl) rfl eb hb)), fun _ => ⟨_, fun s H C cl fp => ev_n 2 rfl, rfl, rfl⟩⟩
theorem ok_chosen_row (F : Fun K "chosen_row" "chosen_row" s_chosen_row f fd) (T : Bt mg) : FnOk P w K mg base CX0 1 f fd ["rows", "offered"] (SpP 2 R_chosen_row K) := by
  refine fn_P F sc_chosen_row rfl (fun ds r h => ?_) fun cdv A outer s H E ds r hr h => ?_
  · obtain ⟨rows, b, ys, rfl, _⟩ := h; rfl
  · obtain ⟨rows, b, ys, rfl, hb, eb, rfl⟩ := h
    have nd := sc_chosen_row.nd
    refine ss_for (xs := rows) (enc := eT) (fun _ : Unit => [.val (.tup (rows.map eT)), .val b, .no, .no]) (fun i _ => chosenRow rows ys = chosenRow (rows.drop i) ys) () .never (ei_sq (ev_n 0 rfl) rfl) rfl (Le.refl _) (fun i x s hx hJ => ⟨_, _, (eg_n 2 nd), ?_⟩) (fun s hJ => ?_)
    · rw [drop_cons hx] at hJ
      refine ss_when (et_v (ev_all (bs := x.map fun c => decide (c ∈ ys)) (ev_lc (xs := x) (enc := .int) (fun _ => true) (fun c => .bl (decide (c ∈ ys))) [("contract", 3)] nd (ep_sq (ev_n 2 rfl) rfl) (fun c hc => ⟨_, fun s H C cl fp => (eg_n 3 nd), fun s H C cl fp => ets_nil, fun _ => ⟨_, fun s H C cl fp => (ev_c (ec_in (ev_n 3 rfl) (ev_n 1 rfl) rfl eb hb)), rfl, rfl⟩⟩)) rfl ?_ T.all) rfl) (fun ht => ?_) (fun ht => ?_)
      · rw [List.filter_eq_self.mpr (fun _ _ => rfl), List.map_map]; rfl
      · refine ss_ret (ev_list (ev_n 2 rfl) T.list) ⟨_, .inl rfl, ?_⟩
        show RK.n _ = RK.n _
        rw [hJ, chosenRow, if_pos ht]; rfl
      · refine ss_nil ⟨(), ?_, le_eq (le_eq (le_no (le_no le_nil)))⟩
        rw [hJ, chosenRow, if_neg (by rw [ht]; exact Bool.false_ne_true)]
    · refine ss_ret (ev_lst ea_nil) ⟨_, .inl rfl, ?_⟩
      rw [drop_all] at hJ
      show RK.n _ = RK.n _
      rw [hJ]; rfl
theorem capGo_fold (gs : List (List Int × Int)) : ∀ (row found : List Int), capGo gs row found = row.foldl (fun fo c => if capOk gs fo c = true then fo ++ [c] else fo) found
  | [], _ => rfl
  | c :: cs, found => by rw [capGo, capGo_fold gs cs]; rfl
theorem ok_within_caps (F : Fun K "within_caps" "within_caps" s_within_caps f fd) (T : Bt mg) (Co : Cal P w K mg base 1 "offered_of" (SpP 2 R_offered_of K)) : FnOk P w K mg base CX0 2 f fd ["row", "groups", "offered"] (SpP 3 R_within_caps K) := by
  refine fn_P F sc_within_caps rfl (fun ds r h => ?_) fun cdv A outer s H E ds r hr h => ?_
  · obtain ⟨rows, b, ys, _, rfl, _⟩ := h; rfl
  · obtain ⟨row, gs, b, ys, rfl, hb, eb, hz, rfl⟩ := h
    have nd := sc_within_caps.nd
    refine ss_setN 3 nd (ev_lst ea_nil) ?_
    have hl : (offer row ys).length ≤ 1000 := Nat.le_trans (List.length_filter_le ..) hz
    refine ss_forF (xs := offer row ys) (enc := .int) (fun fo : List Int => [.val (eT row), .val (.tup (gs.map eGrp)), .val b, .own true (.lst (fo.map .int)), .no, .no, .no, .no]) (fun fo c => if capOk gs fo c = true then fo ++ [c] else fo) (fun i fo => fo.length ≤ i) [] .never (ei_seq (ev_call Co hr (ea_cons (ev_n 0 rfl) (ea_cons (ev_n 2 rfl) ea_nil)) ⟨_, _, row, ys, rfl, rfl, hb, rfl, eb, rfl⟩)) (Nat.le_refl _) (Le.refl _) (fun i x fo hx hJ => ⟨?_, _, _, (eg_n 4 nd), ?_⟩) (fun hJ => ?_)
    · split
      · rw [List.length_append, List.length_singleton]; omega
      · omega
    · refine ss_setLc 5 (xs := gs) (enc := eGrp) (fun g => decide (x ∈ g.1)) (fun g => .int (g.2 - (((offer g.1 fo).length : Nat) : Int))) [("group", 6), ("cap", 7)] nd (ep_sq (ev_n 1 rfl) rfl) (fun g hg => ⟨_, fun s H C cl fp => (eg_t (egs_n 6 nd (egs_n 7 nd egs_nil))), fun s H C cl fp => (ets_one (et_c (ec_in (ev_n 4 rfl) (ev_n 6 rfl) rfl rfl))), fun _ => ⟨_, fun s H C cl fp => (ev_sub (ev_n 7 rfl) (ev_len (ev_callW Co hr (ea_cons (ev_n 6 rfl) (ea_cons (ev_o 3 rfl) ea_nil)) ⟨_, _, g.1, fo, rfl, rfl, rfl, rfl, rfl, rfl⟩) T.len) rfl rfl), rfl, lenI g.2 _⟩⟩) ?_
      refine ss_when (et_v (ev_all (bs := (gs.filter fun g => decide (x ∈ g.1)).map fun g => decide (0 < g.2 - (((offer g.1 fo).length : Nat) : Int))) (ev_lc (xs := (gs.filter fun g => decide (x ∈ g.1)).map fun (g : List Int × Int) => (g.2 - (((offer g.1 fo).length : Nat) : Int))) (enc := .int) (fun _ => true) (fun c => .bl (decide (0 < c))) [("cap", 7)] nd (ep_sq (ev_n 5 rfl) (mmI _ _).symm) (fun c hc => ⟨_, fun s H C cl fp => (eg_n 7 nd), fun s H C cl fp => ets_nil, fun _ => ⟨_, fun s H C cl fp => (ev_c (ec_gt (ev_n 7 rfl) ev_i rfl rfl)), rfl, rfl⟩⟩)) rfl ?_ T.all) rfl) (fun ht => ?_) (fun ht => ?_)
      · rw [List.filter_eq_self.mpr (fun _ _ => rfl), List.map_map, List.map_map]; rfl
      · refine ss_app 3 (ev_n 4 rfl) rfl ?_ (ss_nil (ss_nil ?_))
        · rw [List.length_map]; exact szl (by have := lt_of_get hx; omega)
        · show Le [_, _, _, .own true (.lst ((if capOk gs fo x = true then fo ++ [x] else fo).map D.int)), _, _, _, _] _
          rw [if_pos (show capOk gs fo x = true from ht), List.map_append]
          repeat (first | exact le_nil | refine le_no ?_ | refine le_eq ?_)
      · refine ss_nil ?_
        show Le [_, _, _, .own true (.lst ((if capOk gs fo x = true then fo ++ [x] else fo).map D.int)), _, _, _, _] _
        rw [if_neg (show ¬ capOk gs fo x = true by rw [show capOk gs fo x = false from ht]; exact Bool.false_ne_true)]
        repeat (first | exact le_nil | refine le_no ?_ | refine le_eq ?_)
    · refine ss_retO 3 rfl (.inl ?_)
      show RK.n _ = RK.n _
      rw [withinCaps, capGo_fold]
end
end N50
/-! text G2 -/
set_option maxHeartbeats 4000000
namespace N50
open PySem PySem.Spec PyProof.Rows L2 PySem.W PySem.Calls
/-! ### sorted(t), t a tuple of ints -/
section
variable {prog : Program} {w : World} {A : Around} {E : Value → Shared → Prop} {s : Shared}
theorem collect_tup {l : Addr} {vs : List Value} {Q : List Value → Shared → Prop} (hl : s.heap.IsTuple l vs.toArray)
    (h : Q vs { s with heap := (s.heap.push (seqObj "list" #[] 0)).update s.heap.objs.size (Obj.mapSeq (· ++ vs.toArray)) }) (hsz : vs.length ≤ sizeLine) :
    wpAny (model prog w) A (collect (.ref l)) Q E s := by
  obtain ⟨o, ho, hc, n, hd⟩ := id hl
  unfold collect
  refine wpAny_bind (wpAny_runValue (codeAny_builtin entry_proto_collect' ?_))
  show wpAny _ _ (do again (.builtin "list.__iadd__" ⟨[← newList [], .ref l], []⟩)) _ _ s
  refine wpAny_bind (wpAny_newList (wpAny_pure ⟨Code.quiet_builtin _ (by decide +kernel), codeAny_builtin entry_list_iadd' ?_⟩))
  show wpAny _ _ (Builtin.List.listExtendWith (.ref s.heap.objs.size) (.ref l) (.ref s.heap.objs.size)) _ _ { s with heap := s.heap.push (seqObj "list" #[] 0) }
  unfold Builtin.List.listExtendWith
  have ho' : (s.heap.push (seqObj "list" #[] 0)).get? l = some o := Heap.get?_push_of_some _ ho
  refine wpAny_bind (wpAny_typeOf (T := "tuple") ⟨o, ho', hc⟩ ?_)
  have ht : (Value.type "tuple" == Value.type "tuple") = true := by rfl
  rw [if_pos (by rw [ht]; simp)]
  refine wpAny_bind (listItems_at ho' hd ?_)
  refine wpAny_bind (listItems_at (xs := #[]) (n := 0) (Heap.get?_push_size _ rfl) rfl ?_)
  rw [if_neg (by simp)]
  refine wpAny_bind (listUpdate_at (xs := #[]) (n := 0) (Heap.get?_push_size _ rfl) rfl ?_ (Nat.zero_le _) (by show (#[] ++ vs.toArray).size ≤ sizeLine + 1; simp only [Array.size_append, List.size_toArray, List.length_nil]; omega))
  refine wpAny_pure ?_
  show wpAny (model prog w) A (do
      let o ← load s.heap.objs.size
      match o.data with
      | .seq xs _ => pure xs.toList
      | _ => unsupported "internal:collect") Q E { s with heap := (s.heap.push (seqObj "list" #[] 0)).update s.heap.objs.size (Obj.mapSeq (· ++ vs.toArray)) }
  refine wpAny_bind (wpAny_load (get?_update_seq (Heap.get?_push_size _ rfl) _) ?_)
  show wpAny _ _ (pure ((#[] : Array Value) ++ vs.toArray).toList) Q E _
  rw [show ((#[] : Array Value) ++ vs.toArray).toList = vs by simp]
  exact wpAny_pure h
theorem sortedT_of_sort {l : Addr} {vs : List Value} {kw : List (Str × Value)} {Q : Value → Shared → Prop} (hl : s.heap.IsTuple l vs.toArray) (hL : vs.length ≤ sizeLine) (ha1 : argsOk "sorted" ⟨[.ref l], kw⟩) (ha2 : ∀ x, argsOk "list.sort" ⟨[.ref x], kw⟩)
    (body : ∀ E' : Value → Shared → Prop, wpAny (model prog w) A.in1.in1 (Builtin.«list.sort» ⟨[.ref (s.heap.objs.size + 1)], kw⟩) (fun f s' => f = .done (.ret .none) ∧ Q (.ref (s.heap.objs.size + 1)) s') E' { s with heap := copyHeap s.heap vs }) :
    wpAny (model prog w) A (call (.builtin "sorted") [.ref l] kw) Q E s := by
  refine call_function_entry_kw kind_sorted plain_sorted entry_sorted ha1 ?_
  unfold Builtin.«sorted»
  refine wpAny_bind (m := checkCount "sorted" 1 1 _) (wpAny_pure ?_)
  refine wpAny_bind (collect_tup hl ?_ hL)
  refine wpAny_bind (wpAny_newList ?_ hL)
  have hsz : ((s.heap.push (seqObj "list" #[] 0)).update s.heap.objs.size (Obj.mapSeq (· ++ vs.toArray))).objs.size = s.heap.objs.size + 1 := by
    rw [Heap.size_update, size_push']
  show wpAny _ _ _ _ _ { s with heap := copyHeap s.heap vs }
  rw [hsz]
  refine wpAny_bind (wpAny_holding (wpAny_call_entry_kw slot_list_sort ⟨_, copyHeap_at s.heap vs, rfl⟩ entry_list_sort ?body (ha2 _)))
  case body =>
    show wpAny (model prog w) A.in1.in1 (Builtin.«list.sort» ⟨[.ref (s.heap.objs.size + 1)], kw⟩) _ _ _
    refine wpAny_mono (body _) (fun f s' hf => ?_) fun _ _ e => e
    obtain ⟨rfl, hq⟩ := hf
    exact ⟨_, rfl, wpAny_pure ⟨_, rfl, hq⟩⟩
theorem sortedT_vals {κ : KeyKind} {l : Addr} {vs : List Value} {Q : Value → Shared → Prop} (hl : s.heap.IsTuple l vs.toArray) (S : SortsAt prog w A.in1.in1 { s with heap := sortingHeap (copyHeap s.heap vs) (s.heap.objs.size + 1) vs } κ vs) (hL : vs.length ≤ sizeLine)
    (h : Q (.ref (s.heap.objs.size + 1)) { s with heap := sortedAll s.heap vs (sortVals κ false vs vs).toArray }) : wpAny (model prog w) A (call (.builtin "sorted") [.ref l]) Q E s :=
  sortedT_of_sort hl hL (args_sorted1 _) (fun _ => args_list_sort _) fun _ => list_sort_vals (s := { s with heap := copyHeap s.heap vs }) (copyHeap_at s.heap vs) S hL ⟨rfl, h⟩
theorem sortedT_data {β : Type} {vs : List Value} {bs : List β} {enc : β → PyData} {R : Value → β → Prop} {l : Addr} {Q : Value → Shared → Prop} (hl : s.heap.IsTuple l vs.toArray) (e : EachIs R vs bs) (er : EachIs (fun v b => ∃ as, Reads s.heap v (enc b) as) vs bs) (hal : AllAlike (bs.map enc)) (hk : Sortable (bs.map enc)) (hL : bs.length ≤ sizeLine)
    (hu : ∀ b, b ∈ bs → A.units + 2 + (enc b).depth < cLine) (h : ∀ out, out.length = bs.length → EachIs R out (bs.mergeSort (dataLe false enc)) → Q (.ref (s.heap.objs.size + 1)) { s with heap := sortedAll s.heap vs (List.toArray out) }) :
    wpAny (model prog w) A (call (.builtin "sorted") [.ref l]) Q E s := by
  have er' : EachIs (fun v b => ∃ as, Reads (sortingHeap (copyHeap s.heap vs) (s.heap.objs.size + 1) vs) v (enc b) as) vs bs := er.mono fun _ _ ⟨as, r⟩ => ⟨as, PyProof.Rows.Reads.keeps (fun _ _ => sorting_copy_old) r⟩
  exact sortedT_vals hl (SortsAt.data (s := { s with heap := sortingHeap (copyHeap s.heap vs) (s.heap.objs.size + 1) vs }) (each_map (R := fun v d => ∃ as, Reads (sortingHeap (copyHeap s.heap vs) (s.heap.objs.size + 1) vs) v d as) enc er') hal hk (bound_map hu)) (by rw [e.length]; exact hL)
    (h _ (by rw [sortVals_length false rfl]; exact e.length) (sortVals_data false e er' hal))
end
/-- sorted(t) -/
def rSortedTI (K : PySem.W.Frag) : List V → Hp → VK → Prop := fun vs H Q => ∃ (a : Addr) (ns : List Int), vs = [V.ref a] ∧ SqT K H a (ns.map V.int) ∧ ns.length ≤ sizeLine ∧
  ∀ (p : Addr), H p = none → Q (.ref p) (upd H p (.lst ((srt ns).map V.int)))
def RI (v : Value) (n : Int) : Prop := RelV (.int n) v
theorem each_RI : ∀ {ns : List Int} {us : List Value}, Vals (ns.map V.int) us → EachIs RI us ns
  | [], _, .nil => .nil
  | _ :: _, _, .cons r t => .cons r (each_RI t)
theorem vals_RI : ∀ {ns : List Int} {us : List Value}, EachIs RI us ns → Vals (ns.map V.int) us
  | [], _, .nil => .nil
  | _ :: _, _, .cons r t => .cons r (vals_RI t)
theorem cr_sortedTI {X : Cx} (hu : X.A.units + 64 < cLine) : CallR X (.builtin "sorted") (rSortedTI X.K) := by
  intro pins s σ H vs us Q I r h
  obtain ⟨a, ns, rfl, hs, hz, q⟩ := h
  obtain ⟨its, rv, hl, _⟩ := I.tuple hs
  rw [Vals.ref1 r]
  refine sortedT_data (enc := PyData.int) (R := RI) (bs := ns) hl (each_RI rv) ((each_RI rv).mono fun v n h => ?_) (.of fun _ _ => by simp [alike]) (.others fun _ => ⟨fun z => (nomatch z), fun _ z => (nomatch z)⟩) hz (fun _ _ => by show _ + 2 + 0 < cLine; omega) fun out h1 h2 => ?_
  · obtain ⟨t, rfl⟩ := h
    exact ⟨[], .int _ _⟩
  · have e : ns.mergeSort (dataLe false PyData.int) = srt ns := by
      unfold srt
      rw [show dataLe false PyData.int = fun a b => decide (a ≤ b) from dataLe_int fun b : Int => b]
    rw [e] at h2
    obtain ⟨ep, he'⟩ := PyProof.Rows.sortedAll_at s.heap its out.toArray
    have hlen : ((srt ns).map V.int).length ≤ sizeLine := by rw [List.length_map, srt_length]; exact hz
    exact ⟨.ref _, upd H (s.heap.objs.size + 1) (.lst ((srt ns).map V.int)), I.laid (t' := s.toks) (fun _ _ => PyProof.Rows.sortedAll_old) (Nat.le_succ _) ⟨hlen, out, ep, vals_RI h2, he'⟩, rfl, q _ (I.hok.fresh (Nat.le_succ _))⟩
section
variable {X : Cx} {a : Expr} {ρ ρ1 : En} {m : Bool} {pos p : Pos} {r : RK}
theorem ev_sortedT {ns : List Int} {ds : List D} (hu : X.A.units + 64 < cLine) (h : Ev X a ρ r m ρ1) (ed : r.d = .tup ds) (e : ds = ns.map .int) (hm : X.mg "sorted" = none) (hg : Gl X "sorted" := by rfl) (he : starEach [a] X.env = (false, eval a X.env) :: starEach [] X.env := by rfl) :
    Ev X (.Call (.Name "sorted" p) [a] [] pos) ρ (.n (.lst ((srt ns).map .int))) m ρ1 := by
  have := ev_B (pos := pos) (p := p) (res := .n (.lst ((srt ns).map .int))) (cr_sortedTI hu) hg hm (by decide +kernel) (ea_cons h ea_nil (st := by simp) (hs := he)) (fun M H vs Q mn ar k => by
    obtain ⟨v, rfl, h⟩ := a1 ar
    have hlow := ArgOk.low h
    rw [ed, e] at hlow
    obtain ⟨q, us, rfl, hq, l, hz, n⟩ := den_tup hlow
    have eu := l.ints
    subst eu
    rw [List.length_map] at hz
    refine ⟨q, ns, rfl, (.inl hq), hz, fun z hz' => ?_⟩
    exact k _ _ (Stp.new hz') ⟨z, rfl, hz', newL hz' (by rw [List.length_map, srt_length]; exact hz) (DenL.ofInts _)⟩) (he := he) (hpl := rfl)
  rwa [Bool.or_false] at this
end
end N50
/-! text W3 -/
set_option maxHeartbeats 4000000
namespace N50
open PySem PySem.Spec PyProof.Rows L2
/-! ### right webs, as far as the walk wants it -/
def RowOk (n : Nat) (b : List Int) : Prop := b.length ≤ 40 ∧ ∀ x ∈ b, 0 ≤ x ∧ x < (n : Int)
def GsOk (gs : List (List Int × Int)) : Prop := gs.length ≤ 40
def PlOk (n : Nat) : Pl → Prop
  | .maker _ b s => RowOk n b ∧ RowOk n s
  | .sides _ b _ s => RowOk n b ∧ RowOk n s
  | .table rows => rows.length ≤ 1000 ∧ ∀ r ∈ rows, RowOk n r
  | .trader _ _ b s => RowOk n b ∧ RowOk n s
  | .caps b bg s sg => RowOk n b ∧ RowOk n s ∧ GsOk bg ∧ GsOk sg
def ChOk (n : Nat) : Ch → Prop
  | .pl p => PlOk n p
  | .split ps => ps.length ≤ 40 ∧ ∀ p ∈ ps, PlOk n p
structure WOk (w : Web) : Prop where
  hs : w.hs.length ≤ 40
  cs : w.cs.length ≤ 40
  ch : ∀ q ∈ w.hs, ChOk w.cs.length q.2
  se : ∀ c ∈ w.cs, (0 ≤ c.s ∧ c.s < (w.hs.length : Int)) ∧ (0 ≤ c.b ∧ c.b < (w.hs.length : Int))
def HIx (w : Web) (h : Int) : Prop := 0 ≤ h ∧ h < (w.hs.length : Int)
def CIx (w : Web) (c : Int) : Prop := 0 ≤ c ∧ c < (w.cs.length : Int)
theorem at_map {α β : Type} {g : α → β} {xs : List α} {i : Int} (h0 : 0 ≤ i) (h1 : i < (xs.length : Int)) : ∃ x, xs[i.toNat]? = some x ∧ atI (xs.map g) i = some (g x) := by
  obtain ⟨n, rfl⟩ := Int.eq_ofNat_of_zero_le h0
  have hn : n < xs.length := by omega
  refine ⟨xs[n], by rw [Int.toNat_natCast]; exact List.getElem?_eq_getElem hn, ?_⟩
  unfold atI
  rw [ixN_nat (by rw [List.length_map]; exact hn)]
  show (xs.map g)[n]? = _
  rw [List.getElem?_map, List.getElem?_eq_getElem hn]; rfl
theorem at_house {w : Web} {h : Int} (i : HIx w h) : ∃ q, atI (w.hs.map eHs) h = some (eHs q) ∧ chOf w h = q.2 ∧ q ∈ w.hs := by
  obtain ⟨q, e1, e2⟩ := at_map (g := eHs) i.1 i.2
  exact ⟨q, e2, by unfold chOf; rw [e1], List.mem_of_getElem? e1⟩
theorem at_con {w : Web} {c : Int} (i : CIx w c) : ∃ k, atI (w.cs.map eCon) c = some (eCon k) ∧ selOf w c = k.s ∧ buyOf w c = k.b ∧ price w.cs c = k.p ∧ k ∈ w.cs := by
  obtain ⟨q, e1, e2⟩ := at_map (g := eCon) i.1 i.2
  exact ⟨q, e2, by unfold selOf; rw [e1], by unfold buyOf; rw [e1], by unfold price; rw [e1], List.mem_of_getElem? e1⟩
def sq (d : D) (ys : List Int) : Prop := d.seq = true ∧ d.its = ys.map .int
theorem sqT (ys : List Int) : sq (eT ys) ys := ⟨rfl, rfl⟩
theorem sqL (ys : List Int) : sq (eL ys) ys := ⟨rfl, rfl⟩

abbrev s_choose : Stmt := topS 11
theorem sc_choose : FnScope ["web", "house", "offered"] ["web", "house", "offered"] (defScope s_choose) := ⟨rfl, rfl, rfl, by decide +kernel, rfl, by decide +kernel, by decide +kernel⟩
abbrev s_own_part : Stmt := topS 13
theorem sc_own_part : FnScope ["web", "house", "contracts", "own", "contract"] ["web", "house", "contracts"] (defScope s_own_part) := ⟨rfl, rfl, rfl, by decide +kernel, rfl, by decide +kernel, by decide +kernel⟩
abbrev s_joined_sets : Stmt := topS 14
theorem sc_joined_sets : FnScope ["one", "other"] ["one", "other"] (defScope s_joined_sets) := ⟨rfl, rfl, rfl, by decide +kernel, rfl, by decide +kernel, by decide +kernel⟩
abbrev s_takes : Stmt := topS 17
theorem sc_takes : FnScope ["web", "network", "house", "contracts", "chosen", "contract"] ["web", "network", "house", "contracts"] (defScope s_takes) := ⟨rfl, rfl, rfl, by decide +kernel, rfl, by decide +kernel, by decide +kernel⟩
abbrev s_begins : Stmt := topS 18
theorem sc_begins : FnScope ["web", "network", "contract"] ["web", "network", "contract"] (defScope s_begins) := ⟨rfl, rfl, rfl, by decide +kernel, rfl, by decide +kernel, by decide +kernel⟩
abbrev s_ends : Stmt := topS 19
theorem sc_ends : FnScope ["web", "network", "contract"] ["web", "network", "contract"] (defScope s_ends) := ⟨rfl, rfl, rfl, by decide +kernel, rfl, by decide +kernel, by decide +kernel⟩
abbrev s_goes_on : Stmt := topS 20
theorem sc_goes_on : FnScope ["web", "network", "contract", "behind", "house"] ["web", "network", "contract", "behind"] (defScope s_goes_on) := ⟨rfl, rfl, rfl, by decide +kernel, rfl, by decide +kernel, by decide +kernel⟩
def R_chosen_by : List D → RK → Prop := fun ds r => ∃ (cs : List Con) (c : Ch) (b : D) (ys : List Int), ds = [.tup (cs.map eCon), eCh c, b] ∧ sq b ys ∧ cs.length ≤ 40 ∧ ChOk cs.length c ∧ r = .n (eL (chosenC cs c ys))
def R_choose : List D → RK → Prop := fun ds r => ∃ (w : Web) (h : Int) (b : D) (ys : List Int), ds = [eWeb w, .int h, b] ∧ sq b ys ∧ WOk w ∧ HIx w h ∧ r = .v (eT (choose w h ys))
def R_own_part : List D → RK → Prop := fun ds r => ∃ (w : Web) (h : Int) (b : D) (ys : List Int), ds = [eWeb w, .int h, b] ∧ sq b ys ∧ r = .v (eT (ownPart w h ys))
def R_joined : List D → RK → Prop := fun ds r => ∃ (a b : List Int), ds = [eT a, eT b] ∧ a.length ≤ 30 ∧ b.length ≤ 30 ∧ r = .v (eT (joined a b))
def R_takes : List D → RK → Prop := fun ds r => ∃ (w : Web) (net : List Int) (h : Int) (cs : List Int), ds = [eWeb w, eT net, .int h, eT cs] ∧ WOk w ∧ net.length ≤ 30 ∧ HIx w h ∧ cs.length ≤ 30 ∧ r = .v (.bl (takes w net h cs))
def R_net1 (F : Web → List Int → Int → Bool) : List D → RK → Prop := fun ds r => ∃ (w : Web) (net : List Int) (c : Int), ds = [eWeb w, eT net, .int c] ∧ WOk w ∧ net.length ≤ 30 ∧ CIx w c ∧ r = .v (.bl (F w net c))
def R_goes : List D → RK → Prop := fun ds r => ∃ (w : Web) (net : List Int) (c d : Int), ds = [eWeb w, eT net, .int c, .int d] ∧ WOk w ∧ net.length ≤ 30 ∧ CIx w c ∧ CIx w d ∧ r = .v (.bl (goesOn w net c d))

theorem uniq_mem : ∀ {xs : List Int} {k : Int}, k ∈ uniq xs ↔ k ∈ xs
  | [], k => Iff.rfl
  | x :: xs, k => by
    unfold uniq
    split
    · rename_i h
      rw [uniq_mem, List.mem_cons]
      exact ⟨.inr, fun q => q.elim (fun e => e ▸ h) id⟩
    · rw [List.mem_cons, List.mem_cons, uniq_mem]
theorem uniq_nodup : ∀ xs : List Int, (uniq xs).Nodup
  | [] => List.nodup_nil
  | x :: xs => by
    unfold uniq
    split
    · exact uniq_nodup xs
    · rename_i h
      exact List.nodup_cons.mpr ⟨fun q => h (uniq_mem.mp q), uniq_nodup xs⟩
theorem isort_perm (ns : List Int) : (isort ns).Perm ns := srt_perm ns
theorem isort_mem {ns : List Int} {k : Int} : k ∈ isort ns ↔ k ∈ ns := (isort_perm ns).mem_iff
theorem isort_lt {ns : List Int} (h : ns.Nodup) : (isort ns).Pairwise (· < ·) := by
  have h1 := srt_pw ns
  have h2 : (isort ns).Nodup := (isort_perm ns).nodup_iff.mpr h
  exact List.Pairwise.imp (fun h => by omega) (List.Pairwise.and h1 h2)
theorem joined_mem {a b : List Int} {k : Int} : k ∈ joined a b ↔ k ∈ a ∨ k ∈ b := by
  unfold joined; rw [isort_mem, uniq_mem, List.mem_append]
theorem joined_lt (a b : List Int) : (joined a b).Pairwise (· < ·) := isort_lt (uniq_nodup _)

section
variable {P : Program} {w : World} {K : PySem.W.Frag} {mg : Str → Option Value} {base : Heap} {f : Addr} {fd : FuncData}
theorem ok_choose (F : Fun K "choose" "choose" s_choose f fd) (T : Bt mg) (Cc : Cal P w K mg base 5 "chosen_by" (SpP 3 R_chosen_by K)) : FnOk P w K mg base CX0 6 f fd ["web", "house", "offered"] (SpP 3 R_choose K) := by
  refine fn_P F sc_choose rfl (fun ds r h => ?_) fun cdv A outer s H E ds r hr h => ?_
  · obtain ⟨w, h, b, ys, rfl, _⟩ := h; rfl
  · obtain ⟨w, h, b, ys, rfl, hb, W, hi, rfl⟩ := h
    have nd := sc_choose.nd
    obtain ⟨q, e1, e2, e3⟩ := at_house hi
    refine ss_ret (ev_tuple (ev_sorted (ns := chosenC w.cs q.2 ys) (ev_call Cc hr (ea_cons (ev_ix (ev_n 0 rfl) ev_i rfl rfl) (ea_cons (ev_ix (ev_ix (ev_ix (ev_n 0 rfl) ev_i rfl rfl) (ev_n 1 rfl) rfl e1) ev_i rfl rfl) (ea_cons (ev_n 2 rfl) ea_nil))) ⟨_, _, _, _, rfl, hb, W.cs, W.ch q e3, rfl⟩) rfl T.sorted) T.tuple) ⟨_, .inl rfl, ?_⟩
    show RK.v _ = RK.v _
    rw [choose, e2]; rfl
theorem ok_own_part (F : Fun K "own_part" "own_part" s_own_part f fd) (T : Bt mg) (Co : Cal P w K mg base 1 "own_contracts" (SpP 2 (R_wh ownOf) K)) : FnOk P w K mg base CX0 2 f fd ["web", "house", "contracts"] (SpP 3 R_own_part K) := by
  refine fn_P F sc_own_part rfl (fun ds r h => ?_) fun cdv A outer s H E ds r hr h => ?_
  · obtain ⟨w, h, b, ys, rfl, _⟩ := h; rfl
  · obtain ⟨w, h, b, ys, rfl, hb, rfl⟩ := h
    have nd := sc_own_part.nd
    refine ss_set 3 nd (ev_call Co hr (ea_cons (ev_n 0 rfl) (ea_cons (ev_n 1 rfl) ea_nil)) ⟨_, _, rfl, rfl⟩) ?_
    refine ss_ret (ev_tuple (ev_lc (xs := ys) (enc := .int) (fun x => decide (x ∈ ownOf w.cs h)) .int [("contract", 4)] nd (ep_sq (ev_n 2 rfl) hb.2 hb.1) (fun x hx => ⟨_, fun s H C cl fp => (eg_n 4 nd), fun s H C cl fp => (ets_one (et_c (ec_in (ev_n 4 rfl) (ev_n 3 rfl) rfl rfl))), fun _ => ⟨_, fun s H C cl fp => (ev_n 4 rfl), rfl, rfl⟩⟩)) T.tuple) ⟨_, .inl rfl, rfl⟩
theorem ok_joined_sets (F : Fun K "joined_sets" "joined_sets" s_joined_sets f fd) (T : Bt mg) : FnOk P w K mg base CX0 1 f fd ["one", "other"] (SpP 2 R_joined K) := by
  refine fn_P F sc_joined_sets rfl (fun ds r h => ?_) fun cdv A outer s H E ds r hr h => ?_
  · obtain ⟨a, b, rfl, _⟩ := h; rfl
  · obtain ⟨a, b, rfl, ha, hb, rfl⟩ := h
    have nd := sc_joined_sets.nd
    refine ss_ret (ev_tuple (ev_sset (ns := a ++ b) (ms := joined a b) (ev_catT (ev_n 0 rfl) (ev_n 1 rfl) rfl rfl (by rw [List.length_map, List.length_map]; exact szc (by omega))) (by show D.tup _ = D.tup _; rw [List.map_append]) (joined_lt a b) (fun k => by rw [joined_mem, List.mem_append]) (by rw [List.length_append]; omega) T.sorted T.set) T.tuple) ⟨_, .inl rfl, rfl⟩
theorem ok_takes (F : Fun K "takes" "takes" s_takes f fd) (T : Bt mg) (Cc : Cal P w K mg base 6 "choose" (SpP 3 R_choose K)) (Cj : Cal P w K mg base 1 "joined_sets" (SpP 2 R_joined K)) : FnOk P w K mg base CX0 7 f fd ["web", "network", "house", "contracts"] (SpP 4 R_takes K) := by
  refine fn_P F sc_takes rfl (fun ds r h => ?_) fun cdv A outer s H E ds r hr h => ?_
  · obtain ⟨w, net, h, cs, rfl, _⟩ := h; rfl
  · obtain ⟨w, net, h, cs, rfl, W, hn, hi, hc, rfl⟩ := h
    have nd := sc_takes.nd
    refine ss_set 4 nd (ev_call Cc hr (ea_cons (ev_n 0 rfl) (ea_cons (ev_n 2 rfl) (ea_cons (ev_call Cj (hr.mono (by decide)) (ea_cons (ev_n 1 rfl) (ea_cons (ev_n 3 rfl) ea_nil)) ⟨_, _, rfl, hn, hc, rfl⟩) ea_nil))) ⟨_, _, _, joined net cs, rfl, sqT _, W, hi, rfl⟩) ?_
    refine ss_ret (ev_all (bs := cs.map fun c => decide (c ∈ choose w h (joined net cs))) (ev_lc (xs := cs) (enc := .int) (fun _ => true) (fun c => .bl (decide (c ∈ choose w h (joined net cs)))) [("contract", 5)] nd (ep_sq (ev_n 3 rfl) rfl) (fun x hx => ⟨_, fun s H C cl fp => (eg_n 5 nd), fun s H C cl fp => ets_nil, fun _ => ⟨_, fun s H C cl fp => (ev_c (ec_in (ev_n 5 rfl) (ev_n 4 rfl) rfl rfl)), rfl, rfl⟩⟩)) rfl ?_ T.all) ⟨_, .inl rfl, rfl⟩
    rw [List.filter_eq_self.mpr (fun _ _ => rfl), List.map_map]; rfl
theorem ok_begins (F : Fun K "begins" "begins" s_begins f fd) (Ct : Cal P w K mg base 7 "takes" (SpP 4 R_takes K)) : FnOk P w K mg base CX0 8 f fd ["web", "network", "contract"] (SpP 3 (R_net1 begins) K) := by
  refine fn_P F sc_begins rfl (fun ds r h => ?_) fun cdv A outer s H E ds r hr h => ?_
  · obtain ⟨w, net, c, rfl, _⟩ := h; rfl
  · obtain ⟨w, net, c, rfl, W, hn, hi, rfl⟩ := h
    have nd := sc_begins.nd
    obtain ⟨k, e1, e2, e3, e4, e5⟩ := at_con hi
    refine ss_ret (ev_call Ct hr (ea_cons (ev_n 0 rfl) (ea_cons (ev_n 1 rfl) (ea_cons (ev_ix (ev_ix (ev_ix (ev_n 0 rfl) ev_i rfl rfl) (ev_n 2 rfl) rfl e1) ev_i rfl rfl) (ea_cons (ev_tup (ea_cons (ev_n 2 rfl) ea_nil)) ea_nil)))) ⟨w, net, k.s, [c], rfl, W, hn, (W.se k e5).1, (by simp), rfl⟩) ⟨_, .inl rfl, ?_⟩
    show RK.v _ = RK.v _
    rw [begins, e2]
theorem ok_ends (F : Fun K "ends" "ends" s_ends f fd) (Ct : Cal P w K mg base 7 "takes" (SpP 4 R_takes K)) : FnOk P w K mg base CX0 8 f fd ["web", "network", "contract"] (SpP 3 (R_net1 ends) K) := by
  refine fn_P F sc_ends rfl (fun ds r h => ?_) fun cdv A outer s H E ds r hr h => ?_
  · obtain ⟨w, net, c, rfl, _⟩ := h; rfl
  · obtain ⟨w, net, c, rfl, W, hn, hi, rfl⟩ := h
    have nd := sc_ends.nd
    obtain ⟨k, e1, e2, e3, e4, e5⟩ := at_con hi
    refine ss_ret (ev_call Ct hr (ea_cons (ev_n 0 rfl) (ea_cons (ev_n 1 rfl) (ea_cons (ev_ix (ev_ix (ev_ix (ev_n 0 rfl) ev_i rfl rfl) (ev_n 2 rfl) rfl e1) ev_i rfl rfl) (ea_cons (ev_tup (ea_cons (ev_n 2 rfl) ea_nil)) ea_nil)))) ⟨w, net, k.b, [c], rfl, W, hn, (W.se k e5).2, (by simp), rfl⟩) ⟨_, .inl rfl, ?_⟩
    show RK.v _ = RK.v _
    rw [ends, e3]
theorem ok_goes_on (F : Fun K "goes_on" "goes_on" s_goes_on f fd) (T : Bt mg) (Ct : Cal P w K mg base 7 "takes" (SpP 4 R_takes K)) : FnOk P w K mg base CX0 8 f fd ["web", "network", "contract", "behind"] (SpP 4 R_goes K) := by
  refine fn_P F sc_goes_on rfl (fun ds r h => ?_) fun cdv A outer s H E ds r hr h => ?_
  · obtain ⟨w, net, c, d, rfl, _⟩ := h; rfl
  · obtain ⟨w, net, c, d, rfl, W, hn, hc, hd, rfl⟩ := h
    have nd := sc_goes_on.nd
    obtain ⟨k, e1, e2, e3, e4, e5⟩ := at_con hc
    obtain ⟨l, g1, g2, g3, g4, g5⟩ := at_con hd
    refine ss_set 4 nd (ev_ix (ev_ix (ev_ix (ev_n 0 rfl) ev_i rfl rfl) (ev_n 2 rfl) rfl e1) ev_i rfl rfl) ?_
    refine ss_ret (ev_and (ev_c (ec_eq (ev_ix (ev_ix (d := eCon l) (ev_ix (ev_n 0 rfl) ev_i rfl rfl) (ev_n 3 rfl) rfl (by exact g1)) ev_i rfl rfl) (ev_n 4 rfl) (.int _ _))) rfl (fun _ => (ev_and1 (ev_call Ct hr (ea_cons (ev_n 0 rfl) (ea_cons (ev_n 1 rfl) (ea_cons (ev_n 4 rfl) (ea_cons (ev_tuple (ev_sortedT (ns := [c, d]) hr.units (ev_tup (ea_cons (ev_n 2 rfl) (ea_cons (ev_n 3 rfl) ea_nil))) rfl rfl T.sorted) T.tuple) ea_nil)))) ⟨w, net, k.b, isort [c, d], rfl, W, hn, (W.se k e5).2, by rw [(isort_perm _).length_eq]; simp, rfl⟩))) (fun _ => rfl)) ⟨_, .inl rfl, ?_⟩
    show RK.v _ = RK.v _
    rw [goesOn, g2, e3]
end
end N50
/-! text W4 -/
set_option maxHeartbeats 4000000
namespace N50
open PySem PySem.Spec PyProof.Rows L2
/-! ### == of tuples of ints -/
theorem shL_ints : ∀ (n : Nat) (ns : List Int), D.shL n (ns.map .int) = true
  | n, [] => by simp [D.shL]
  | n, x :: xs => by
    have := shL_ints n xs
    rw [List.map_cons, D.shL, this]
    simp [D.sh]
theorem sh_eT (n : Nat) (ns : List Int) : (eT ns).sh (n + 1) = true := by
  show D.sh (n + 1) (.tup _) = true
  rw [D.sh]; exact shL_ints n ns
theorem eqvL_ints : ∀ (a b : List Int), PyData.eqvAll (D.pdL (a.map .int)) (D.pdL (b.map .int)) = decide (a = b)
  | [], [] => by simp [D.pdL, PyData.eqvAll]
  | [], b :: bs => by simp [D.pdL, PyData.eqvAll]
  | a :: as, [] => by simp [D.pdL, PyData.eqvAll]
  | a :: as, b :: bs => by
    have := eqvL_ints as bs
    rw [List.map_cons, List.map_cons, D.pdL, D.pdL, PyData.eqvAll, this]
    simp [D.pd, PyData.eqv, List.cons.injEq, Bool.beq_eq_decide_eq]
theorem eqv_eT (a b : List Int) : PyData.eqv (eT a).pd (eT b).pd = decide (a = b) := by
  show PyData.eqv (D.pd (.tup _)) (D.pd (.tup _)) = _
  rw [D.pd, D.pd, PyData.eqv]; exact eqvL_ints a b
/-! ### a web whose sales go down -/
def Down (w : Web) : Prop := ∃ rk : Int → Nat, ∀ c ∈ w.cs, rk c.s < rk c.b
theorem exists_min {xs : List Int} (rk : Int → Nat) (h : xs ≠ []) : ∃ x ∈ xs, ∀ y ∈ xs, rk x ≤ rk y := by
  induction xs with
  | nil => exact absurd rfl h
  | cons x xs ih =>
    by_cases e : xs = []
    · subst e; exact ⟨x, by simp, fun y hy => by simp at hy; rw [hy]; exact Nat.le_refl _⟩
    · obtain ⟨z, hz, hm⟩ := ih e
      by_cases hl : rk x ≤ rk z
      · exact ⟨x, by simp, fun y hy => by
          rcases List.mem_cons.mp hy with hy | hy
          · rw [hy]; exact Nat.le_refl _
          · exact Nat.le_trans hl (hm y hy)⟩
      · exact ⟨z, by simp [hz], fun y hy => by
          rcases List.mem_cons.mp hy with hy | hy
          · rw [hy]; omega
          · exact hm y hy⟩
theorem sold_enc (w : Web) (left : List Int) : ((w.cs.filter fun c => decide (c.s ∈ left)).map fun c => D.int c.b) = (soldTo w left).map .int := by unfold soldTo; rw [List.map_map]; rfl
theorem soldTo_mem {w : Web} {left : List Int} {h : Int} : h ∈ soldTo w left ↔ ∃ c ∈ w.cs, c.s ∈ left ∧ c.b = h := by
  unfold soldTo
  simp only [List.mem_map, List.mem_filter, decide_eq_true_eq]
  exact ⟨fun ⟨c, ⟨h1, h2⟩, h3⟩ => ⟨c, h1, h2, h3⟩, fun ⟨c, h1, h2, h3⟩ => ⟨c, ⟨h1, h2⟩, h3⟩⟩
theorem down_less {w : Web} (dn : Down w) {left : List Int} (h : left ≠ []) : (left.filter fun x => decide (x ∈ soldTo w left)).length < left.length := by
  obtain ⟨rk, hr⟩ := dn
  obtain ⟨x, hx, hm⟩ := exists_min rk h
  refine List.length_filter_lt_length_iff_exists.mpr ⟨x, hx, fun q => ?_⟩
  obtain ⟨c, c1, c2, c3⟩ := soldTo_mem.mp (of_decide_eq_true q)
  have := hr c c1
  have := hm _ c2
  rw [c3] at *
  omega
theorem filter_two {α : Type} (p : α → Bool) (xs : List α) : (xs.filter fun x => !p x).length + (xs.filter p).length = xs.length := by
  induction xs with
  | nil => rfl
  | cons x xs ih =>
    by_cases h : p x
    · rw [List.filter_cons, List.filter_cons, h]; simp; omega
    · rw [List.filter_cons, List.filter_cons]; simp [h]; omega

abbrev s_first_dropping : Stmt := topS 15
theorem sc_first_dropping : FnScope ["web", "network", "house", "chosen"] ["web", "network"] (defScope s_first_dropping) := ⟨rfl, rfl, rfl, by decide +kernel, rfl, by decide +kernel, by decide +kernel⟩
abbrev s_houses_down : Stmt := topS 23
theorem sc_houses_down : FnScope ["web", "order", "left", "sold_to", "free", "seller", "buyer", "_", "house"] ["web"] (defScope s_houses_down) := ⟨rfl, rfl, rfl, by decide +kernel, rfl, by decide +kernel, by decide +kernel⟩
abbrev s_told_offers : Stmt := topS 24
theorem sc_told_offers : FnScope ["web", "network", "found", "house", "held", "sells", "contract"] ["web", "network"] (defScope s_told_offers) := ⟨rfl, rfl, rfl, by decide +kernel, rfl, by decide +kernel, by decide +kernel⟩
abbrev s_asked_behind : Stmt := topS 25
theorem sc_asked_behind : FnScope ["web", "network", "offers", "contract"] ["web", "network", "offers"] (defScope s_asked_behind) := ⟨rfl, rfl, rfl, by decide +kernel, rfl, by decide +kernel, by decide +kernel⟩
abbrev s_offered_to : Stmt := topS 26
theorem sc_offered_to : FnScope ["web", "house", "offers", "asked", "buys", "sells", "contract"] ["web", "house", "offers", "asked"] (defScope s_offered_to) := ⟨rfl, rfl, rfl, by decide +kernel, rfl, by decide +kernel, by decide +kernel⟩
abbrev s_judge : Stmt := topS 27
theorem sc_judge : FnScope ["web", "network", "offers", "asked", "house", "contract"] ["web", "network", "offers"] (defScope s_judge) := ⟨rfl, rfl, rfl, by decide +kernel, rfl, by decide +kernel, by decide +kernel⟩
abbrev s_verdict : Stmt := topS 28
theorem sc_verdict : FnScope ["web", "network", "dropping", "chain"] ["web", "network"] (defScope s_verdict) := ⟨rfl, rfl, rfl, by decide +kernel, rfl, by decide +kernel, by decide +kernel⟩
abbrev s_is_at_rest : Stmt := topS 29
theorem sc_is_at_rest : FnScope ["web", "network"] ["web", "network"] (defScope s_is_at_rest) := ⟨rfl, rfl, rfl, by decide +kernel, rfl, by decide +kernel, by decide +kernel⟩

def eFd : Option (Int × List Int) → D
  | none => .non
  | some q => .tup [.int q.1, eT q.2]
def eOc : Option (List Int) → D
  | none => .non
  | some r => eT r
def eVd : Vd → D
  | .drops h c => .tup [.str "drops", .int h, eT c]
  | .chain r => .tup [.str "chain", eT r]
  | .rest o => .tup [.str "rest", eT o]
def R_wn (F : Web → List Int → D) : List D → RK → Prop := fun ds r => ∃ (w : Web) (net : List Int), ds = [eWeb w, eT net] ∧ WOk w ∧ Down w ∧ net.length ≤ 30 ∧ r = .v (F w net)
def R_down : List D → RK → Prop := fun ds r => ∃ (w : Web), ds = [eWeb w] ∧ WOk w ∧ Down w ∧ r = .v (eL (housesDown w))
def R_asked : List D → RK → Prop := fun ds r => ∃ (w : Web) (net off : List Int), ds = [eWeb w, eT net, eT off] ∧ WOk w ∧ r = .v (eT (askedBehind w net off))
def R_offto : List D → RK → Prop := fun ds r => ∃ (w : Web) (h : Int) (off asked : List Int), ds = [eWeb w, .int h, eT off, eT asked] ∧ w.cs.length ≤ 40 ∧ r = .v (eT (offeredTo w h off asked))
def R_judge : List D → RK → Prop := fun ds r => ∃ (w : Web) (net off : List Int), ds = [eWeb w, eT net, eT off] ∧ WOk w ∧ r = .v (.bl (judge w net off))
theorem lenM {α : Type} (g : α → D) (xs : List α) : D.int (((xs.map g).length : Nat) : Int) = D.int ((xs.length : Nat) : Int) := by rw [List.length_map]
theorem pos_ne {α : Type} {g : α → D} {xs : List α} {t : Bool} (h : decide ((0 : Int) < (((xs.map g).length : Nat) : Int)) = t) : (t = true → xs ≠ []) ∧ (t = false → xs = []) := by
  cases xs with
  | nil => subst h; simp
  | cons x xs => subst h; simp
theorem bfilter {P : Prop} {b c : Bool} (h : b = c) : b = c := h
theorem whl {cs : List Con} {F : List Con → Int → List Int} (h : ∀ x, (F cs x).length ≤ cs.length) (x : Int) (hw : cs.length ≤ 40) : (F cs x).length ≤ 40 := Nat.le_trans (h x) hw
theorem buys_len (cs : List Con) (h : Int) : (buysOf cs h).length ≤ cs.length := by unfold buysOf; rw [List.length_map]; exact Nat.le_trans (List.length_filter_le ..) (by rw [List.length_zipIdx]; exact Nat.le_refl _)
theorem sells_len (cs : List Con) (h : Int) : (sellsOf cs h).length ≤ cs.length := by unfold sellsOf; rw [List.length_map]; exact Nat.le_trans (List.length_filter_le ..) (by rw [List.length_zipIdx]; exact Nat.le_refl _)
theorem idxs_enc (n : Nat) : ((List.range n).map fun i => D.int (i : Nat)) = (idxs n).map .int := by unfold idxs; rw [List.map_map]; rfl
theorem idxs_mem {n : Nat} {h : Int} : h ∈ idxs n ↔ 0 ≤ h ∧ h < (n : Int) := by
  unfold idxs
  rw [List.mem_map]
  constructor
  · rintro ⟨i, hi, rfl⟩
    rw [List.mem_range] at hi
    omega
  · rintro ⟨h0, h1⟩
    obtain ⟨k, rfl⟩ := Int.eq_ofNat_of_zero_le h0
    exact ⟨k, List.mem_range.mpr (by omega), rfl⟩
theorem mem_of_get {α : Type} {xs : List α} {i : Nat} {x : α} (h : xs[i]? = some x) : x ∈ xs := List.mem_of_getElem? h

section
variable {P : Program} {w : World} {K : PySem.W.Frag} {mg : Str → Option Value} {base : Heap} {f : Addr} {fd : FuncData}
theorem ei_idx {X : Cx} {tg a : Expr} {ρ ρ1 : En} {m : Bool} {pos p : Pos} {r : RK} {n : Nat} (h : Ev X a ρ r m ρ1) (e : r.d = .int (n : Nat)) (hz : n ≤ 1000000) (hm : X.mg "range" = none) (hg : Gl X "range" := by rfl) (he : starEach [a] X.env = (false, eval a X.env) :: starEach [] X.env := by rfl) (hs : starEach [a] X.env = [(false, eval a X.env)] := by rfl) :
    EvI X tg (.Call (.Name "range" p) [a] [] pos) ρ ((idxs n).map .int) m ρ1 := by
  rw [← idxs_enc]; exact ei_range h e hz hm hg he hs
theorem rgV_idxs (n : Nat) : rgV 0 ((n : Nat) : Int) = (idxs n).map V.int := by
  unfold rgV idxs
  rw [List.map_map, Int.sub_zero, Int.toNat_natCast]
  exact List.map_congr_left fun i _ => by show V.int (0 + (i : Int)) = V.int (i : Int); rw [Int.zero_add]
theorem ev_listR {X : Cx} {a : Expr} {ρ ρ1 : En} {m : Bool} {pos p p2 pos2 : Pos} {r : RK} {n : Nat} (h : Ev X a ρ r m ρ1) (e : r.d = .int (n : Nat)) (hz : n ≤ 100000) (hm : X.mg "list" = none) (hm2 : X.mg "range" = none) (hc : X.calm = true := by rfl) (hg : Gl X "list" := by rfl) (hg2 : Gl X "range" := by rfl) (he : starEach [a] X.env = (false, eval a X.env) :: starEach [] X.env := by rfl)
    (he2 : starEach [.Call (.Name "range" p2) [a] [] pos2] X.env = (false, eval (.Call (.Name "range" p2) [a] [] pos2) X.env) :: starEach [] X.env := by rfl) :
    Ev X (.Call (.Name "list" p) [.Call (.Name "range" p2) [a] [] pos2] [] pos) ρ (.n (.lst ((idxs n).map .int))) m ρ1 := fun B G M O σ H Q S k =>
  ⟨_, pe_listRg hc hg hm (prg_1 hg2 hm2 pe_w he) he2, h B G M O σ H _ S fun v H1 s S1 r1 => by
    have q := r1.low
    rw [e] at q
    refine ⟨_, den_int q, .of_le (Int.le_refl 0) (by omega) (by decide) (by omega), fun z hz' => ?_⟩
    rw [rgV_idxs]
    exact k _ _ (st_alloc s hz') (S1.new hz') ⟨z, rfl, s.fresh S1.om S1.mn hz', newL hz' (by rw [List.length_map]; exact szc (by unfold idxs; simp; omega)) (DenL.ofInts _)⟩⟩
theorem ok_first_dropping (F : Fun K "first_dropping" "first_dropping" s_first_dropping f fd) (T : Bt mg) (Cc : Cal P w K mg base 6 "choose" (SpP 3 R_choose K)) (Co : Cal P w K mg base 2 "own_part" (SpP 3 R_own_part K)) : FnOk P w K mg base CX0 7 f fd ["web", "network"] (SpP 2 (R_wn fun w net => eFd (firstDropping w net)) K) := by
  refine fn_P F sc_first_dropping rfl (fun ds r h => ?_) fun cdv A outer s H E ds r hr h => ?_
  · obtain ⟨w, net, rfl, _⟩ := h; rfl
  · obtain ⟨w, net, rfl, W, dn, hn, rfl⟩ := h
    have nd := sc_first_dropping.nd
    refine ss_for (xs := idxs w.hs.length) (enc := .int) (fun _ : Unit => [.val (eWeb w), .val (eT net), .no, .no]) (fun i _ => firstDropping w net = firstDrop w net ((idxs w.hs.length).drop i)) () .never (ei_idx (n := w.hs.length) (ev_len (ev_ix (ev_n 0 rfl) ev_i rfl rfl) T.len) (lenM eHs w.hs) (by have := W.hs; omega) T.range) rfl (Le.refl _) (fun i x s hx hJ => ⟨_, _, (eg_n 2 nd), ?_⟩) (fun s hJ => ?_)
    · rw [drop_cons hx] at hJ
      have hi : HIx w x := idxs_mem.mp (mem_of_get hx)
      refine ss_set 3 nd (ev_call Cc hr (ea_cons (ev_n 0 rfl) (ea_cons (ev_n 2 rfl) (ea_cons (ev_n 1 rfl) ea_nil))) ⟨w, x, _, net, rfl, sqT _, W, hi, rfl⟩) ?_
      refine ss_when (et_c (ec_neD hr.units (ev_n 3 rfl) (ev_call Co (hr.mono (by decide)) (ea_cons (ev_n 0 rfl) (ea_cons (ev_n 2 rfl) (ea_cons (ev_n 1 rfl) ea_nil))) ⟨w, x, _, net, rfl, sqT _, rfl⟩) (sh_eT _ _) (sh_eT _ _))) (fun ht => ?_) (fun ht => ?_)
      · refine ss_ret (ev_tup (ea_cons (ev_n 2 rfl) (ea_cons (ev_n 3 rfl) ea_nil))) ⟨_, .inl rfl, ?_⟩
        have ht' : (!PyData.eqv (eT (choose w x net)).pd (eT (ownPart w x net)).pd) = true := ht
        rw [eqv_eT] at ht'
        show RK.v _ = RK.v (eFd (firstDropping w net))
        rw [hJ, firstDrop, if_neg (by simpa using ht')]; rfl
      · have ht' : (!PyData.eqv (eT (choose w x net)).pd (eT (ownPart w x net)).pd) = false := ht
        rw [eqv_eT] at ht'
        refine ss_nil ⟨(), ?_, by repeat (first | exact le_nil | refine le_no ?_ | refine le_eq ?_)⟩
        rw [hJ, firstDrop, if_pos (by simpa using ht')]
    · refine ss_ret ev_non ⟨_, .inl rfl, ?_⟩
      rw [drop_all] at hJ
      show RK.v _ = RK.v (eFd (firstDropping w net))
      rw [hJ]; rfl
theorem ok_houses_down (F : Fun K "houses_down" "houses_down" s_houses_down f fd) (T : Bt mg) : FnOk P w K mg base CX0 1 f fd ["web"] (SpP 1 R_down K) := by
  refine fn_P F sc_houses_down rfl (fun ds r h => ?_) fun cdv A outer s H E ds r hr h => ?_
  · obtain ⟨w, rfl, _⟩ := h; rfl
  · obtain ⟨w, rfl, W, dn, rfl⟩ := h
    have nd := sc_houses_down.nd
    refine ss_set 1 nd (ev_lst ea_nil) ?_
    refine ss_set 2 nd (ev_listR (n := w.hs.length) (ev_len (ev_ix (ev_n 0 rfl) ev_i rfl rfl) T.len) (lenM eHs w.hs) (by have := W.hs; omega) T.list T.range) ?_
    refine ss_while (fun q : List Int × List Int => [.val (eWeb w), .val (eL q.1), .val (eL q.2), .no, .no, .no, .no, .no, .no]) (fun q => q.1.length + q.2.length ≤ 40 ∧ ∃ n, q.2.length < n ∧ downGo w n q.1 q.2 = housesDown w) (fun q => q.2.length) ([], idxs w.hs.length) .never ⟨by unfold idxs; simp; exact W.hs, _, by unfold idxs; simp, rfl⟩ (Le.refl _) (fun q hJ => ⟨_, _, _, (et_c (ec_gt (ev_len (ev_n 2 rfl) T.len) ev_i rfl rfl)), fun ht => ?_, fun ht => ?_⟩)
    · obtain ⟨hl, n, hn, hg⟩ := hJ
      obtain ⟨order, left⟩ := q
      dsimp only at hl hn hg ht
      have hne : left ≠ [] := (pos_ne (g := .int) (xs := left) ht).1 rfl
      refine ss_set 3 nd (ev_lc (xs := w.cs) (enc := eCon) (fun c => decide (c.s ∈ left)) (fun c => .int c.b) [("seller", 5), ("buyer", 6), ("_", 7)] nd (ep_sq (ev_ix (ev_n 0 rfl) ev_i rfl rfl) rfl) (fun x hx => ⟨_, fun s H C cl fp => (eg_t (egs_n 5 nd (egs_n 6 nd (egs_n 7 nd egs_nil)))), fun s H C cl fp => (ets_one (et_c (ec_in (ev_n 5 rfl) (ev_n 2 rfl) rfl rfl))), fun _ => ⟨_, fun s H C cl fp => (ev_n 6 rfl), rfl, rfl⟩⟩)) ?_
      rw [show (RK.n (D.lst ((w.cs.filter fun c => decide (c.s ∈ left)).map fun c => D.int c.b))).d = eL (soldTo w left) by rw [sold_enc]; rfl]
      refine ss_setLc 4 (xs := left) (enc := .int) (fun h => !decide (h ∈ soldTo w left)) .int [("house", 8)] nd (ep_sq (ev_n 2 rfl) rfl) (fun x hx => ⟨_, fun s H C cl fp => (eg_n 8 nd), fun s H C cl fp => (ets_one (et_c (ec_notIn (ev_n 8 rfl) (ev_n 3 rfl) rfl rfl))), fun _ => ⟨_, fun s H C cl fp => (ev_n 8 rfl), rfl, rfl⟩⟩) ?_
      have h2 := filter_two (fun h => decide (h ∈ soldTo w left)) left
      refine ss_set 1 nd (ev_cat (ev_n 1 rfl) (ev_n 4 rfl) rfl rfl (by rw [List.length_map, List.length_map]; exact szc (by show order.length + _ ≤ _; omega))) ?_
      refine ss_set 2 nd (ev_lc (xs := left) (enc := .int) (fun h => decide (h ∈ soldTo w left)) .int [("house", 8)] nd (ep_sq (ev_n 2 rfl) rfl) (fun x hx => ⟨_, fun s H C cl fp => (eg_n 8 nd), fun s H C cl fp => (ets_one (et_c (ec_in (ev_n 8 rfl) (ev_n 3 rfl) rfl rfl))), fun _ => ⟨_, fun s H C cl fp => (ev_n 8 rfl), rfl, rfl⟩⟩)) ?_
      have hlt := down_less dn hne
      refine ss_nil ⟨(order ++ left.filter fun h => !decide (h ∈ soldTo w left), left.filter fun h => decide (h ∈ soldTo w left)), ⟨?_, n - 1, ?_, ?_⟩, hlt, ?_⟩
      · show (order ++ _ : List Int).length + (left.filter fun h => decide (h ∈ soldTo w left)).length ≤ 40
        rw [List.length_append]; omega
      · show (List.filter _ _).length < _
        omega
      · obtain ⟨k, rfl⟩ : ∃ k, n = k + 1 := ⟨n - 1, by omega⟩
        rw [← hg, downGo, if_neg hne]; rfl
      · show Le [_, .val (.lst ((order ++ left.filter fun h => !decide (h ∈ soldTo w left)).map D.int)), _, _, _, _, _, _, _] _
        rw [List.map_append]
        repeat (first | exact le_nil | refine le_no ?_ | refine le_eq ?_)
    · obtain ⟨hl, n, hn, hg⟩ := hJ
      obtain ⟨order, left⟩ := q
      dsimp only at hl hn hg ht
      have hne : left = [] := (pos_ne (g := .int) (xs := left) ht).2 rfl
      refine ss_ret (ev_n 1 rfl) ⟨_, .inl rfl, ?_⟩
      obtain ⟨k, rfl⟩ : ∃ k, n = k + 1 := ⟨n - 1, by omega⟩
      rw [downGo, if_pos hne] at hg
      show RK.v _ = RK.v _
      rw [← hg]
end
end N50
/-! text W5 -/
set_option maxHeartbeats 4000000
namespace N50
open PySem PySem.Spec PyProof.Rows L2
def upd1 (w : Web) (net held : List Int) (h : Int) (fo : List Int) (c : Int) : List Int := if openOne w net held h c = true then fo ++ [c] else fo
theorem filter_foldl (p : Int → Bool) : ∀ (xs fo : List Int), fo ++ xs.filter p = xs.foldl (fun fo c => if p c = true then fo ++ [c] else fo) fo
  | [], fo => by simp
  | x :: xs, fo => by
    rw [List.foldl_cons, ← filter_foldl p xs]
    by_cases h : p x = true
    · rw [if_pos h, List.filter_cons_of_pos h, List.append_assoc]; rfl
    · rw [if_neg h, List.filter_cons_of_neg h]
theorem down_len {w : Web} : ∀ (n : Nat) (order left : List Int), (downGo w n order left).length ≤ order.length + left.length
  | 0, order, left => Nat.le_add_right _ _
  | n + 1, order, left => by
    unfold downGo
    split
    · exact Nat.le_add_right _ _
    · have h2 := filter_two (fun h => decide (h ∈ soldTo w left)) left
      have := down_len (w := w) n (order ++ left.filter fun h => !decide (h ∈ soldTo w left)) (left.filter fun h => decide (h ∈ soldTo w left))
      rw [List.length_append] at this
      omega
theorem housesDown_len (w : Web) : (housesDown w).length ≤ w.hs.length := by
  have := down_len (w := w) (w.hs.length + 1) [] (idxs w.hs.length)
  unfold housesDown
  have e : (idxs w.hs.length).length = w.hs.length := by unfold idxs; simp
  rw [e] at this
  simpa using this
/-- down the houses, what comes is a house -/
theorem down_mem {w : Web} {x : Int} : ∀ (n : Nat) (order left : List Int), x ∈ downGo w n order left → x ∈ order ∨ x ∈ left
  | 0, order, left, h => .inl h
  | n + 1, order, left, h => by
    unfold downGo at h
    split at h
    · exact .inl h
    · rcases down_mem n _ _ h with h | h
      · rcases List.mem_append.mp h with h | h
        · exact .inl h
        · exact .inr (List.mem_filter.mp h).1
      · exact .inr (List.mem_filter.mp h).1
theorem housesDown_ix {w : Web} {h : Int} (m : h ∈ housesDown w) : HIx w h := by
  rcases down_mem _ _ _ m with m | m
  · simp at m
  · exact idxs_mem.mp m
section
variable {P : Program} {w : World} {K : PySem.W.Frag} {mg : Str → Option Value} {base : Heap} {f : Addr} {fd : FuncData}
theorem ok_told_offers (F : Fun K "told_offers" "told_offers" s_told_offers f fd) (T : Bt mg) (Cd : Cal P w K mg base 1 "houses_down" (SpP 1 R_down K)) (Cb : Cal P w K mg base 1 "buys_of" (SpP 2 (R_wh buysOf) K)) (Cs : Cal P w K mg base 1 "sells_of" (SpP 2 (R_wh sellsOf) K)) (Cc : Cal P w K mg base 6 "choose" (SpP 3 R_choose K)) : FnOk P w K mg base CX0 7 f fd ["web", "network"] (SpP 2 (R_wn fun w net => eT (toldOffers w net)) K) := by
  refine fn_P F sc_told_offers rfl (fun ds r h => ?_) fun cdv A outer s H E ds r hr h => ?_
  · obtain ⟨w, net, rfl, _⟩ := h; rfl
  · obtain ⟨w, net, rfl, W, dn, hn, rfl⟩ := h
    have nd := sc_told_offers.nd
    refine ss_setN 2 nd (ev_list (ev_n 1 rfl) T.list) ?_
    refine ss_forF (xs := housesDown w) (enc := .int) (fun fo : List Int => [.val (eWeb w), .val (eT net), .own true (eL fo), .no, .no, .no, .no]) (tellHouse w net) (fun i fo => fo.length ≤ 30 + i * 40) net .never (ei_sq (ev_call Cd (hr.mono (by decide)) (ea_cons (ev_n 0 rfl) ea_nil) ⟨w, rfl, W, dn, rfl⟩) rfl) (by omega) (Le.refl _) (fun i x fo hx hJ => ⟨?_, _, _, (eg_n 3 nd), ?_⟩) (fun hJ => ?_)
    · unfold tellHouse
      rw [List.length_append]
      have h1 := List.length_filter_le (fun c => openOne w net (heldOf w net fo x) x c) (sellsOf w.cs x)
      have h2 := sells_len w.cs x
      have := W.cs
      omega
    · have hi : HIx w x := housesDown_ix (mem_of_get hx)
      have hil : i < 40 := by have := lt_of_get hx; have := housesDown_len w; have := W.hs; omega
      have b1 := buys_len w.cs x
      have b2 := sells_len w.cs x
      have hW := W.cs
      have l1 := List.length_filter_le (fun c => decide (c ∈ fo)) (buysOf w.cs x)
      have l2 := List.length_filter_le (fun c => decide (c ∈ net)) (sellsOf w.cs x)
      refine ss_setLc 4 (xs := buysOf w.cs x) (enc := .int) (fun c => decide (c ∈ fo)) .int [("contract", 6)] nd (ep_sq (ev_call Cb (hr.mono (by decide)) (ea_cons (ev_n 0 rfl) (ea_cons (ev_n 3 rfl) ea_nil)) ⟨w, x, rfl, rfl⟩) rfl) (fun c hc => ⟨_, fun s H C cl fp => (eg_n 6 nd), fun s H C cl fp => (ets_one (et_c (ec_in (ev_n 6 rfl) (ev_o 2 rfl) rfl rfl))), fun _ => ⟨_, fun s H C cl fp => (ev_n 6 rfl), rfl, rfl⟩⟩) ?_
      refine ss_set 5 nd (ev_call Cs (hr.mono (by decide)) (ea_cons (ev_n 0 rfl) (ea_cons (ev_n 3 rfl) ea_nil)) ⟨w, x, rfl, rfl⟩) ?_
      refine ss_set 4 nd (ev_cat (ev_n 4 rfl) (ev_lc (xs := sellsOf w.cs x) (enc := .int) (fun c => decide (c ∈ net)) .int [("contract", 6)] nd (ep_sq (ev_n 5 rfl) rfl) (fun c hc => ⟨_, fun s H C cl fp => (eg_n 6 nd), fun s H C cl fp => (ets_one (et_c (ec_in (ev_n 6 rfl) (ev_n 1 rfl) rfl rfl))), fun _ => ⟨_, fun s H C cl fp => (ev_n 6 rfl), rfl, rfl⟩⟩)) rfl rfl (by rw [List.length_map, List.length_map]; exact szc (by omega))) ?_
      rw [show (RK.n (D.lst (((buysOf w.cs x).filter fun c => decide (c ∈ fo)).map D.int ++ ((sellsOf w.cs x).filter fun c => decide (c ∈ net)).map D.int))).d = eL (heldOf w net fo x) by unfold heldOf; rw [eL, List.map_append]; rfl]
      refine ss_forF (xs := sellsOf w.cs x) (enc := .int) (fun g : List Int => [.val (eWeb w), .val (eT net), .own true (eL g), .val (.int x), .val (eL (heldOf w net fo x)), .val (eT (sellsOf w.cs x)), .no]) (fun g c => if openOne w net (heldOf w net fo x) x c = true then g ++ [c] else g) (fun j g => g.length ≤ fo.length + j) fo .never (ei_sq (ev_n 5 rfl) rfl) (by omega) (by repeat (first | exact le_nil | refine le_no ?_ | refine le_eq ?_)) (fun j c g hc hK => ⟨?_, _, _, (eg_n 6 nd), ?_⟩) (fun hK => ?_)
      · split
        · rw [List.length_append, List.length_singleton]; omega
        · omega
      · have hj := lt_of_get hc
        refine ss_when (EvT.is (et_w (ew_and (et_c (ec_notIn (ev_n 6 rfl) (ev_n 1 rfl) rfl rfl)) (fun _ => (ew_and1 (et_c (ec_in (ev_n 6 rfl) (ev_call Cc (hr.mono (by decide)) (ea_cons (ev_n 0 rfl) (ea_cons (ev_n 3 rfl) (ea_cons (ev_tuple (ev_sorted (ns := heldOf w net fo x ++ [c]) (ev_cat (ev_n 4 rfl) (ev_lst (ea_cons (ev_n 6 rfl) ea_nil)) rfl rfl ?_) ?_ T.sorted) T.tuple) ea_nil))) ⟨w, x, _, isort (heldOf w net fo x ++ [c]), rfl, sqT _, W, hi, rfl⟩) rfl rfl)))))) (show _ = openOne w net (heldOf w net fo x) x c from rfl)) (fun ht => ?_) (fun ht => ?_)
        · rw [List.length_map]; unfold heldOf; rw [List.length_append]; exact szc (by simp; omega)
        · show _ ++ _ = _
          rw [List.map_append]; rfl
        · refine ss_app 2 (ev_n 6 rfl) rfl ?_ (ss_nil (ss_nil ?_))
          · rw [List.length_map]; exact szl (by omega)
          · show Le [_, _, .own true (eL (if openOne w net (heldOf w net fo x) x c = true then g ++ [c] else g)), _, _, _, _] _
            rw [if_pos ht, eL, List.map_append]
            repeat (first | exact le_nil | refine le_no ?_ | refine le_eq ?_)
        · refine ss_nil ?_
          show Le [_, _, .own true (eL (if openOne w net (heldOf w net fo x) x c = true then g ++ [c] else g)), _, _, _, _] _
          rw [if_neg (by rw [ht]; exact Bool.false_ne_true)]
          repeat (first | exact le_nil | refine le_no ?_ | refine le_eq ?_)
      · refine ss_nil ?_
        rw [← filter_foldl]
        show Le [_, _, .own true (eL (tellHouse w net fo x)), _, _, _, _] _
        unfold tellHouse
        repeat (first | exact le_nil | refine le_no ?_ | refine le_eq ?_)
    · refine ss_ret (ev_tuple (ev_sorted (ns := (housesDown w).foldl (tellHouse w net) net) (ev_o 2 rfl) rfl T.sorted) T.tuple) ⟨_, .inl rfl, rfl⟩
theorem ok_asked_behind (F : Fun K "asked_behind" "asked_behind" s_asked_behind f fd) (T : Bt mg) : FnOk P w K mg base CX0 1 f fd ["web", "network", "offers"] (SpP 3 R_asked K) := by
  refine fn_P F sc_asked_behind rfl (fun ds r h => ?_) fun cdv A outer s H E ds r hr h => ?_
  · obtain ⟨w, net, off, rfl, _⟩ := h; rfl
  · obtain ⟨w, net, off, rfl, W, rfl⟩ := h
    have nd := sc_asked_behind.nd
    refine ss_ret (ev_tuple (ev_lc (xs := idxs w.cs.length) (enc := .int) (fun c => decide (c ∈ net) || !decide (c ∈ off)) .int [("contract", 3)] nd (EvI.pure (ei_idx (n := w.cs.length) (ev_len (ev_ix (ev_n 0 rfl) ev_i rfl rfl) T.len) (lenM eCon w.cs) (by have := W.cs; omega) T.range)) (fun x hx => ⟨_, fun s H C cl fp => (eg_n 3 nd), fun s H C cl fp => (ets_one (et_w (ew_or (et_c (ec_in (ev_n 3 rfl) (ev_n 1 rfl) rfl rfl)) (fun _ => (ew_or1 (et_c (ec_notIn (ev_n 3 rfl) (ev_n 2 rfl) rfl rfl))))))), fun _ => ⟨_, fun s H C cl fp => (ev_n 3 rfl), rfl, rfl⟩⟩)) T.tuple) ⟨_, .inl rfl, rfl⟩
theorem ok_offered_to (F : Fun K "offered_to" "offered_to" s_offered_to f fd) (T : Bt mg) (Cb : Cal P w K mg base 1 "buys_of" (SpP 2 (R_wh buysOf) K)) (Cs : Cal P w K mg base 1 "sells_of" (SpP 2 (R_wh sellsOf) K)) : FnOk P w K mg base CX0 2 f fd ["web", "house", "offers", "asked"] (SpP 4 R_offto K) := by
  refine fn_P F sc_offered_to rfl (fun ds r h => ?_) fun cdv A outer s H E ds r hr h => ?_
  · obtain ⟨w, x, off, asked, rfl, _⟩ := h; rfl
  · obtain ⟨w, x, off, asked, rfl, hz, rfl⟩ := h
    have nd := sc_offered_to.nd
    have b1 := buys_len w.cs x
    have b2 := sells_len w.cs x
    have l1 := List.length_filter_le (fun c => decide (c ∈ off)) (buysOf w.cs x)
    have l2 := List.length_filter_le (fun c => decide (c ∈ asked)) (sellsOf w.cs x)
    refine ss_setLc 4 (xs := buysOf w.cs x) (enc := .int) (fun c => decide (c ∈ off)) .int [("contract", 6)] nd (ep_sq (ev_call Cb hr (ea_cons (ev_n 0 rfl) (ea_cons (ev_n 1 rfl) ea_nil)) ⟨w, x, rfl, rfl⟩) rfl) (fun c hc => ⟨_, fun s H C cl fp => (eg_n 6 nd), fun s H C cl fp => (ets_one (et_c (ec_in (ev_n 6 rfl) (ev_n 2 rfl) rfl rfl))), fun _ => ⟨_, fun s H C cl fp => (ev_n 6 rfl), rfl, rfl⟩⟩) ?_
    refine ss_setLc 5 (xs := sellsOf w.cs x) (enc := .int) (fun c => decide (c ∈ asked)) .int [("contract", 6)] nd (ep_sq (ev_call Cs hr (ea_cons (ev_n 0 rfl) (ea_cons (ev_n 1 rfl) ea_nil)) ⟨w, x, rfl, rfl⟩) rfl) (fun c hc => ⟨_, fun s H C cl fp => (eg_n 6 nd), fun s H C cl fp => (ets_one (et_c (ec_in (ev_n 6 rfl) (ev_n 3 rfl) rfl rfl))), fun _ => ⟨_, fun s H C cl fp => (ev_n 6 rfl), rfl, rfl⟩⟩) ?_
    refine ss_ret (ev_tuple (ev_sorted (ns := ((buysOf w.cs x).filter fun c => decide (c ∈ off)) ++ ((sellsOf w.cs x).filter fun c => decide (c ∈ asked))) (ev_cat (ev_n 4 rfl) (ev_n 5 rfl) rfl rfl ?_) ?_ T.sorted) T.tuple) ⟨_, .inl rfl, rfl⟩
    · rw [List.length_map, List.length_map]; exact szc (by omega)
    · show _ ++ _ = _
      rw [List.map_append]
theorem ok_judge (F : Fun K "judge" "judge" s_judge f fd) (T : Bt mg) (Ca : Cal P w K mg base 1 "asked_behind" (SpP 3 R_asked K)) (Ct : Cal P w K mg base 2 "offered_to" (SpP 4 R_offto K)) (Cc : Cal P w K mg base 6 "choose" (SpP 3 R_choose K)) (Co : Cal P w K mg base 2 "own_part" (SpP 3 R_own_part K)) : FnOk P w K mg base CX0 7 f fd ["web", "network", "offers"] (SpP 3 R_judge K) := by
  refine fn_P F sc_judge rfl (fun ds r h => ?_) fun cdv A outer s H E ds r hr h => ?_
  · obtain ⟨w, net, off, rfl, _⟩ := h; rfl
  · obtain ⟨w, net, off, rfl, W, rfl⟩ := h
    have nd := sc_judge.nd
    refine ss_when (et_not (et_v (ev_all (bs := net.map fun c => decide (c ∈ off)) (ev_lc (xs := net) (enc := .int) (fun _ => true) (fun c => .bl (decide (c ∈ off))) [("contract", 5)] nd (ep_sq (ev_n 1 rfl) rfl) (fun x hx => ⟨_, fun s H C cl fp => (eg_n 5 nd), fun s H C cl fp => ets_nil, fun _ => ⟨_, fun s H C cl fp => (ev_c (ec_in (ev_n 5 rfl) (ev_n 2 rfl) rfl rfl)), rfl, rfl⟩⟩)) rfl ?_ T.all) rfl)) (fun ht => ?_) (fun ht => ?_)
    · rw [List.filter_eq_self.mpr (fun _ _ => rfl), List.map_map]; rfl
    · refine ss_ret ev_bl ⟨_, .inl rfl, ?_⟩
      show RK.v _ = RK.v (.bl (judge w net off))
      unfold judge
      rw [if_neg (by simpa using ht)]
    · refine ss_set 3 nd (ev_call Ca (hr.mono (by decide)) (ea_cons (ev_n 0 rfl) (ea_cons (ev_n 1 rfl) (ea_cons (ev_n 2 rfl) ea_nil))) ⟨w, net, off, rfl, W, rfl⟩) ?_
      refine ss_for (xs := idxs w.hs.length) (enc := .int) (fun _ : Unit => [.val (eWeb w), .val (eT net), .val (eT off), .val (eT (askedBehind w net off)), .no, .no]) (fun i _ => judge w net off = judgeGo w net off (askedBehind w net off) ((idxs w.hs.length).drop i)) () .never (ei_idx (n := w.hs.length) (ev_len (ev_ix (ev_n 0 rfl) ev_i rfl rfl) T.len) (lenM eHs w.hs) (by have := W.hs; omega) T.range) ?_ (by repeat (first | exact le_nil | refine le_no ?_ | refine le_eq ?_)) (fun i x s hx hJ => ⟨_, _, (eg_n 4 nd), ?_⟩) (fun s hJ => ?_)
      · unfold judge
        rw [if_pos (by simpa using ht)]; rfl
      · rw [drop_cons hx] at hJ
        have hi : HIx w x := idxs_mem.mp (mem_of_get hx)
        refine ss_when (EvT.is (et_c (ec_neD hr.units (ev_call Cc (hr.mono (by decide)) (ea_cons (ev_n 0 rfl) (ea_cons (ev_n 4 rfl) (ea_cons (ev_call Ct (hr.mono (by decide)) (ea_cons (ev_n 0 rfl) (ea_cons (ev_n 4 rfl) (ea_cons (ev_n 2 rfl) (ea_cons (ev_n 3 rfl) ea_nil)))) ⟨w, x, off, askedBehind w net off, rfl, W.cs, rfl⟩) ea_nil))) ⟨w, x, _, offeredTo w x off (askedBehind w net off), rfl, sqT _, W, hi, rfl⟩) (ev_call Co (hr.mono (by decide)) (ea_cons (ev_n 0 rfl) (ea_cons (ev_n 4 rfl) (ea_cons (ev_n 1 rfl) ea_nil))) ⟨w, x, _, net, rfl, sqT _, rfl⟩) (sh_eT _ _) (sh_eT _ _))) (congrArg (fun b => !b) (eqv_eT _ _))) (fun ht => ?_) (fun ht => ?_)
        · refine ss_ret ev_bl ⟨_, .inl rfl, ?_⟩
          show RK.v _ = RK.v (.bl (judge w net off))
          rw [hJ, judgeGo, if_neg (by simpa using ht)]
        · refine ss_nil ⟨(), ?_, by repeat (first | exact le_nil | refine le_no ?_ | refine le_eq ?_)⟩
          rw [hJ, judgeGo, if_pos (by simpa using ht)]
      · refine ss_ret ev_bl ⟨_, .inl rfl, ?_⟩
        rw [drop_all] at hJ
        show RK.v _ = RK.v (.bl (judge w net off))
        rw [hJ]; rfl
theorem ok_is_at_rest (F : Fun K "is_at_rest" "is_at_rest" s_is_at_rest f fd) (Ct : Cal P w K mg base 7 "told_offers" (SpP 2 (R_wn fun w net => eT (toldOffers w net)) K)) (Cj : Cal P w K mg base 7 "judge" (SpP 3 R_judge K)) : FnOk P w K mg base CX0 8 f fd ["web", "network"] (SpP 2 (R_wn fun w net => .bl (isAtRest w net)) K) := by
  refine fn_P F sc_is_at_rest rfl (fun ds r h => ?_) fun cdv A outer s H E ds r hr h => ?_
  · obtain ⟨w, net, rfl, _⟩ := h; rfl
  · obtain ⟨w, net, rfl, W, dn, hn, rfl⟩ := h
    have nd := sc_is_at_rest.nd
    refine ss_ret (ev_call Cj hr (ea_cons (ev_n 0 rfl) (ea_cons (ev_n 1 rfl) (ea_cons (ev_call Ct hr (ea_cons (ev_n 0 rfl) (ea_cons (ev_n 1 rfl) ea_nil)) ⟨w, net, rfl, W, dn, hn, rfl⟩) ea_nil))) ⟨w, net, toldOffers w net, rfl, W, rfl⟩) ⟨_, .inl rfl, rfl⟩
theorem ok_verdict (F : Fun K "verdict" "verdict" s_verdict f fd) (Cf : Cal P w K mg base 7 "first_dropping" (SpP 2 (R_wn fun w net => eFd (firstDropping w net)) K)) (Cg : Cal P w K mg base 9 "gaining_chain" (SpP 2 (R_wn fun w net => eOc (gainingChain w net)) K)) (Ct : Cal P w K mg base 7 "told_offers" (SpP 2 (R_wn fun w net => eT (toldOffers w net)) K)) : FnOk P w K mg base CX0 10 f fd ["web", "network"] (SpP 2 (R_wn fun w net => eVd (verdict w net)) K) := by
  refine fn_P F sc_verdict rfl (fun ds r h => ?_) fun cdv A outer s H E ds r hr h => ?_
  · obtain ⟨w, net, rfl, _⟩ := h; rfl
  · obtain ⟨w, net, rfl, W, dn, hn, rfl⟩ := h
    have nd := sc_verdict.nd
    have hR : ∀ F : Web → List Int → D, R_wn F [eWeb w, eT net] (.v (F w net)) := fun F => ⟨w, net, rfl, W, dn, hn, rfl⟩
    refine ss_set 2 nd (ev_call Cf (hr.mono (by decide)) (ea_cons (ev_n 0 rfl) (ea_cons (ev_n 1 rfl) ea_nil)) (hR _)) ?_
    refine ss_when (et_c (ec_notN (ev_n 2 rfl))) (fun ht => ?_) (fun ht => ?_)
    · cases e : firstDropping w net with
      | none =>
        have ht' : (!(eFd (firstDropping w net)).isN) = true := ht
        rw [e] at ht'; exact nomatch ht'
      | some q =>
        refine ss_ret (ev_catT (xs := [.str "drops"]) (ys := [.int q.1, eT q.2]) (ev_tup (ea_cons ev_s ea_nil)) (ev_n 2 rfl) rfl rfl (szb rfl)) ⟨_, .inl rfl, ?_⟩
        show RK.v _ = RK.v (eVd (verdict w net))
        unfold verdict
        rw [e]; rfl
    · have e : firstDropping w net = none := by
        cases e : firstDropping w net with
        | none => rfl
        | some q =>
          have ht' : (!(eFd (firstDropping w net)).isN) = false := ht
          rw [e] at ht'; exact nomatch ht'
      refine ss_set 3 nd (ev_call Cg (hr.mono (by decide)) (ea_cons (ev_n 0 rfl) (ea_cons (ev_n 1 rfl) ea_nil)) (hR _)) ?_
      refine ss_when (et_c (ec_notN (ev_n 3 rfl))) (fun ht => ?_) (fun ht => ?_)
      · cases e2 : gainingChain w net with
        | none =>
          have ht' : (!(eOc (gainingChain w net)).isN) = true := ht
          rw [e2] at ht'; exact nomatch ht'
        | some q =>
          refine ss_ret (ev_tup (ea_cons ev_s (ea_cons (ev_n 3 rfl) ea_nil))) ⟨_, .inl rfl, ?_⟩
          show RK.v (D.tup [.str "chain", eT q]) = RK.v (eVd (verdict w net))
          unfold verdict
          rw [e, e2]; rfl
      · have e2 : gainingChain w net = none := by
          cases e2 : gainingChain w net with
          | none => rfl
          | some q =>
            have ht' : (!(eOc (gainingChain w net)).isN) = false := ht
            rw [e2] at ht'; exact nomatch ht'
        refine ss_ret (ev_tup (ea_cons ev_s (ea_cons (ev_call Ct (hr.mono (by decide)) (ea_cons (ev_n 0 rfl) (ea_cons (ev_n 1 rfl) ea_nil)) (hR _)) ea_nil))) ⟨_, .inl rfl, ?_⟩
        show RK.v (D.tup [.str "rest", eT (toldOffers w net)]) = RK.v (eVd (verdict w net))
        unfold verdict
        rw [e, e2]; rfl
end
end N50
/-! text W6 -/
set_option maxHeartbeats 4000000
namespace N50
open PySem PySem.Spec PyProof.Rows L2
/-! ### the search by rounds: what keeps -/
/-- how many are not yet reached -/
def cnt (out reached : List Int) : Nat := (out.filter fun c => !decide (c ∈ reached)).length
theorem cnt_le (out r : List Int) : cnt out r ≤ out.length := List.length_filter_le ..
theorem cnt_add {out r : List Int} {c : Int} (h1 : c ∈ out) (h2 : c ∉ r) : cnt out (r ++ [c]) + 1 ≤ cnt out r := by
  unfold cnt
  have e : (out.filter fun x => !decide (x ∈ r ++ [c])) = (out.filter fun x => !decide (x ∈ r)).filter fun x => !decide (x = c) := by
    rw [List.filter_filter]
    refine List.filter_congr fun x _ => ?_
    by_cases a : x ∈ r <;> by_cases b : x = c <;> simp [a, b]
  rw [e]
  exact List.length_filter_lt_length_iff_exists.mpr ⟨c, List.mem_filter.mpr ⟨h1, by simp [h2]⟩, by simp⟩
structure GrOk (w : Web) (out : List Int) (c0 : Nat) (q : List Int × List (List Int)) : Prop where
  a : q.2.length + cnt out q.1 ≤ c0
  b : q.1.length + cnt out q.1 ≤ 80
  r : ∀ row ∈ q.2, row ≠ [] ∧ CIx w (lastOf row) ∧ row.length + cnt out q.1 ≤ 41
def growOne (w : Web) (net row : List Int) (q : List Int × List (List Int)) (c : Int) : List Int × List (List Int) := if (!decide (c ∈ q.1) && goesOn w net (lastOf row) c) = true then (q.1 ++ [c], q.2 ++ [row ++ [c]]) else q
theorem growRow_fold (w : Web) (net row : List Int) : ∀ (cs : List Int) (q : List Int × List (List Int)), growRow w net row cs q = cs.foldl (growOne w net row) q
  | [], _ => rfl
  | c :: cs, q => by rw [growRow, growRow_fold w net row cs, List.foldl_cons]; rfl
theorem growAll_fold (w : Web) (net out : List Int) : ∀ (rs : List (List Int)) (q : List Int × List (List Int)), growAll w net out rs q = rs.foldl (fun q r => growRow w net r out q) q
  | [], _ => rfl
  | c :: cs, q => by rw [growAll, growAll_fold w net out cs, List.foldl_cons]
theorem last_app (row : List Int) (c : Int) : lastOf (row ++ [c]) = c := by unfold lastOf; simp
theorem GrOk.one {w : Web} {net out row : List Int} {c0 : Nat} {q : List Int × List (List Int)} (G : GrOk w out c0 q) {c : Int} (hc : c ∈ out) (hx : CIx w c) (hr : row.length + c0 ≤ 41) : GrOk w out c0 (growOne w net row q c) := by
  unfold growOne
  split
  · rename_i h
    rw [Bool.and_eq_true] at h
    have h1 : c ∉ q.1 := by simpa using h.1
    have hl := cnt_add hc h1
    have := G.a
    have := G.b
    refine ⟨?_, ?_, fun r hr' => ?_⟩
    · show (q.2 ++ _).length + cnt out (q.1 ++ [c]) ≤ c0
      rw [List.length_append, List.length_singleton]; omega
    · show (q.1 ++ _).length + cnt out (q.1 ++ [c]) ≤ 80
      rw [List.length_append, List.length_singleton]; omega
    · rcases List.mem_append.mp hr' with h | h
      · obtain ⟨g1, g2, g3⟩ := G.r r h
        refine ⟨g1, g2, ?_⟩
        show _ + cnt out (q.1 ++ [c]) ≤ 41
        omega
      · rw [List.mem_singleton.mp h]
        refine ⟨by simp, by rw [last_app]; exact hx, ?_⟩
        show (row ++ _).length + cnt out (q.1 ++ [c]) ≤ 41
        rw [List.length_append, List.length_singleton]; omega
  · exact G
theorem GrOk.row {w : Web} {net row : List Int} {c0 : Nat} {out : List Int} (hr : row.length + c0 ≤ 41) : ∀ (cs : List Int) (q : List Int × List (List Int)), (∀ c ∈ cs, c ∈ out ∧ CIx w c) → GrOk w out c0 q → GrOk w out c0 (cs.foldl (growOne w net row) q)
  | [], q, _, G => G
  | c :: cs, q, h, G => GrOk.row hr cs _ (fun x hx => h x (List.mem_cons_of_mem _ hx)) (G.one (h c List.mem_cons_self).1 (h c List.mem_cons_self).2 hr)
theorem GrOk.all {w : Web} {net : List Int} {c0 : Nat} {out : List Int} (ho : ∀ c ∈ out, CIx w c) : ∀ (rs : List (List Int)) (q : List Int × List (List Int)), (∀ r ∈ rs, r.length + c0 ≤ 41) → GrOk w out c0 q → GrOk w out c0 (growAll w net out rs q)
  | [], q, _, G => G
  | r :: rs, q, h, G => by
    rw [growAll, growRow_fold]
    exact GrOk.all ho rs _ (fun x hx => h x (List.mem_cons_of_mem _ hx)) (GrOk.row (h r List.mem_cons_self) out q (fun c hc => ⟨hc, ho c hc⟩) G)
theorem lastAt {row : List Int} (h : row ≠ []) : atI (row.map D.int) (-1) = some (.int (lastOf row)) := by
  obtain ⟨ys, y, rfl⟩ : ∃ ys y, row = ys ++ [y] := ⟨row.dropLast, row.getLast h, (List.dropLast_concat_getLast h).symm⟩
  rw [last_app]
  unfold atI
  have e : ixN ((ys ++ [y]).map D.int).length (-1) = some ys.length := by
    unfold ixN
    rw [List.length_map, List.length_append, List.length_singleton]
    rw [if_neg (by omega), if_pos (by omega)]
    congr 1
    omega
  rw [e]
  show ((ys ++ [y]).map D.int)[ys.length]? = _
  simp
abbrev s_gaining_chain : Stmt := topS 21
theorem sc_gaining_chain : FnScope ["web", "network", "outside", "rows", "reached", "row", "longer", "contract"] ["web", "network"] (defScope s_gaining_chain) := ⟨rfl, rfl, rfl, by decide +kernel, rfl, by decide +kernel, by decide +kernel⟩
section
variable {P : Program} {w : World} {K : PySem.W.Frag} {mg : Str → Option Value} {base : Heap} {f : Addr} {fd : FuncData}
theorem rows_last (rows : List Int) : ((rows.map fun c => [c]).map fun r => D.int (lastOf r)) = rows.map .int := by
  rw [List.map_map]; exact List.map_congr_left fun c _ => rfl
theorem rows_last2 (rows : List Int) : (rows.map fun c => [c]).map lastOf = rows := by
  rw [List.map_map]; exact (List.map_congr_left fun c _ => rfl).trans (List.map_id _)
set_option maxHeartbeats 8000000 in
theorem ok_gaining_chain (F : Fun K "gaining_chain" "gaining_chain" s_gaining_chain f fd) (T : Bt mg) (Cb : Cal P w K mg base 8 "begins" (SpP 3 (R_net1 begins) K)) (Ce : Cal P w K mg base 8 "ends" (SpP 3 (R_net1 ends) K)) (Cg : Cal P w K mg base 8 "goes_on" (SpP 4 R_goes K)) : FnOk P w K mg base CX0 9 f fd ["web", "network"] (SpP 2 (R_wn fun w net => eOc (gainingChain w net)) K) := by
  refine fn_P F sc_gaining_chain rfl (fun ds r h => ?_) fun cdv A outer s H E ds r hr h => ?_
  · obtain ⟨w, net, rfl, _⟩ := h; rfl
  · obtain ⟨w, net, rfl, W, dn, hn, rfl⟩ := h
    have nd := sc_gaining_chain.nd
    refine ss_setLc 2 (xs := idxs w.cs.length) (enc := .int) (fun c => !decide (c ∈ net)) .int [("contract", 7)] nd (EvI.pure (ei_idx (n := w.cs.length) (ev_len (ev_ix (ev_n 0 rfl) ev_i rfl rfl) T.len) (lenM eCon w.cs) (by have := W.cs; omega) T.range)) (fun x hx => ⟨_, fun s H C cl fp => (eg_n 7 nd), fun s H C cl fp => (ets_one (et_c (ec_notIn (ev_n 7 rfl) (ev_n 1 rfl) rfl rfl))), fun _ => ⟨_, fun s H C cl fp => (ev_n 7 rfl), rfl, rfl⟩⟩) ?_
    have ho : ∀ c ∈ outsideOf w net, CIx w c := fun c hc => idxs_mem.mp (List.mem_filter.mp hc).1
    have hol : (outsideOf w net).length ≤ 40 := by
      have h1 : (outsideOf w net).length ≤ (idxs w.cs.length).length := List.length_filter_le ..
      have h2 : (idxs w.cs.length).length = w.cs.length := by unfold idxs; simp
      have := W.cs
      omega
    have hoc : (outsideOf w net).length ≤ w.cs.length := by
      have h1 : (outsideOf w net).length ≤ (idxs w.cs.length).length := List.length_filter_le ..
      have h2 : (idxs w.cs.length).length = w.cs.length := by unfold idxs; simp
      omega
    generalize hout : outsideOf w net = out at ho hol hoc
    rw [show ((idxs w.cs.length).filter fun c => !decide (c ∈ net)) = out from hout]
    refine ss_setLc 3 (xs := out) (enc := .int) (fun c => begins w net c) (fun c => eT [c]) [("contract", 7)] nd (ep_sq (ev_n 2 rfl) rfl) (fun c hc => ⟨_, fun s H C cl fp => (eg_n 7 nd), fun s H C cl fp => (ets_one (et_v (ev_call Cb hr (ea_cons (ev_n 0 rfl) (ea_cons (ev_n 1 rfl) (ea_cons (ev_n 7 rfl) ea_nil))) ⟨w, net, c, rfl, W, hn, ho c hc, rfl⟩) rfl)), fun _ => ⟨_, fun s H C cl fp => (ev_tup (ea_cons (ev_n 7 rfl) ea_nil)), rfl, rfl⟩⟩) ?_
    have hrl : (out.filter fun c => begins w net c).length ≤ out.length := List.length_filter_le ..
    have hrm : ∀ c ∈ out.filter fun c => begins w net c, CIx w c := fun c hc => ho c (List.mem_filter.mp hc).1
    have hgo : gainingChain w net = chainGo w net out (w.cs.length + 2) (out.filter fun c => begins w net c) ((out.filter fun c => begins w net c).map fun c => [c]) := by
      unfold gainingChain
      dsimp only
      rw [hout, rows_last2]
    generalize (out.filter fun c => begins w net c) = rows0 at hrl hrm hgo
    rw [show (rows0.map fun c => eT [c]) = (rows0.map fun c => [c]).map eT by rw [List.map_map]; rfl]
    refine ss_setLcN 4 (xs := rows0.map fun c => [c]) (enc := eT) (fun _ => true) (fun r => .int (lastOf r)) [("row", 5)] nd (ep_sq (ev_n 3 rfl) rfl) (fun x hx => ⟨_, fun s H C cl fp => (eg_n 5 nd), fun s H C cl fp => ets_nil, fun _ => ⟨_, fun s H C cl fp => (ev_ix (ev_n 5 rfl) (ev_neg ev_i rfl) rfl (by exact lastAt (row := x) (by obtain ⟨c, _, rfl⟩ := List.mem_map.mp hx; simp))), rfl, rfl⟩⟩) ?_
    rw [List.filter_eq_self.mpr (fun _ _ => rfl), rows_last]
    refine ss_while (fun q : List Int × List (List Int) => [.val (eWeb w), .val (eT net), .val (eL out), .val (.lst (q.2.map eT)), .own true (eL q.1), .no, .no, .no]) (fun q => q.1.length + cnt out q.1 ≤ 80 ∧ q.2.length ≤ 40 ∧ (∀ row ∈ q.2, row ≠ [] ∧ CIx w (lastOf row) ∧ row.length + cnt out q.1 ≤ 41) ∧ ∃ n, cnt out q.1 + (if q.2 = [] then 0 else 1) < n ∧ gainingChain w net = chainGo w net out n q.1 q.2) (fun q => cnt out q.1 + (if q.2 = [] then 0 else 1)) (rows0, rows0.map fun c => [c]) .never ⟨?_, ?_, ?_, w.cs.length + 2, ?_, hgo⟩ (by repeat (first | exact le_nil | refine le_no ?_ | refine le_eq ?_)) (fun q hJ => ⟨_, _, _, (et_c (ec_gt (ev_len (ev_n 3 rfl) T.len) ev_i rfl rfl)), fun ht => ?_, fun ht => ?_⟩)
    · have := cnt_le out rows0
      show rows0.length + cnt out rows0 ≤ 80
      omega
    · show (rows0.map _).length ≤ 40
      rw [List.length_map]; omega
    · intro row hrow
      obtain ⟨c, hc, rfl⟩ := List.mem_map.mp hrow
      have := cnt_le out rows0
      refine ⟨by simp, hrm c hc, ?_⟩
      show [c].length + cnt out rows0 ≤ 41
      rw [List.length_singleton]; omega
    · have := cnt_le out rows0
      show cnt out rows0 + _ < _
      split <;> omega
    · obtain ⟨reached, rows⟩ := q
      obtain ⟨hb, hrl2, hrs, n, hnn, hg⟩ := hJ
      dsimp only at hb hrl2 hrs hnn hg ht
      have hne : rows ≠ [] := (pos_ne (g := eT) (xs := rows) ht).1 rfl
      obtain ⟨k, rfl⟩ : ∃ k, n = k + 1 := ⟨n - 1, by omega⟩
      rw [if_neg hne] at hnn
      rw [chainGo, if_neg hne] at hg
      refine ss_for (xs := rows) (enc := eT) (fun _ : Unit => [.val (eWeb w), .val (eT net), .val (eL out), .val (.lst (rows.map eT)), .own true (eL reached), .no, .no, .no]) (fun i _ => firstEnd w net rows = firstEnd w net (rows.drop i)) () .never (ei_sq (ev_n 3 rfl) rfl) rfl (by repeat (first | exact le_nil | refine le_no ?_ | refine le_eq ?_)) (fun i x s hx hJ => ⟨_, _, (eg_n 5 nd), ?_⟩) (fun s hJ => ?_)
      · rw [drop_cons hx] at hJ
        obtain ⟨x1, x2, x3⟩ := hrs x (mem_of_get hx)
        refine ss_when (et_v (ev_call Ce hr (ea_cons (ev_n 0 rfl) (ea_cons (ev_n 1 rfl) (ea_cons (ev_ix (ev_n 5 rfl) (ev_neg ev_i rfl) rfl (by exact lastAt x1)) ea_nil))) ⟨w, net, lastOf x, rfl, W, hn, x2, rfl⟩) rfl) (fun ht => ?_) (fun ht => ?_)
        · refine ss_ret (ev_n 5 rfl) ⟨_, .inl rfl, ?_⟩
          rw [firstEnd, if_pos ht] at hJ
          rw [hJ] at hg
          show RK.v _ = RK.v (eOc (gainingChain w net))
          rw [hg]; rfl
        · refine ss_nil ⟨(), ?_, by repeat (first | exact le_nil | refine le_no ?_ | refine le_eq ?_)⟩
          rw [hJ, firstEnd, if_neg (by rw [ht]; exact Bool.false_ne_true)]
      · rw [drop_all] at hJ
        rw [hJ] at hg
        replace hg : gainingChain w net = chainGo w net out k (growAll w net out rows (reached, [])).1 (growAll w net out rows (reached, [])).2 := hg
        refine ss_setN 6 nd (ev_lst ea_nil) ?_
        have G0 : GrOk w out (cnt out reached) (reached, []) := ⟨by simp, hb, fun r hr => by simp at hr⟩
        have Gend := GrOk.all (net := net) ho rows (reached, []) (fun r hr => (hrs r hr).2.2) G0
        rw [growAll_fold] at hg Gend
        refine ss_forF (xs := rows) (enc := eT) (fun q : List Int × List (List Int) => [.val (eWeb w), .val (eT net), .val (eL out), .val (.lst (rows.map eT)), .own true (eL q.1), .no, .own true (.lst (q.2.map eT)), .no]) (fun q r => growRow w net r out q) (fun i q => GrOk w out (cnt out reached) q) (reached, []) .never (ei_sq (ev_n 3 rfl) rfl) G0 (by repeat (first | exact le_nil | refine le_no ?_ | refine le_eq ?_)) (fun i x q hx hJ => ⟨?_, _, _, (eg_n 5 nd), ?_⟩) (fun hJ2 => ?_)
        · rw [growRow_fold]
          exact GrOk.row (hrs x (mem_of_get hx)).2.2 out q (fun c hc => ⟨hc, ho c hc⟩) hJ
        · obtain ⟨x1, x2, x3⟩ := hrs x (mem_of_get hx)
          refine ss_forF (xs := out) (enc := .int) (fun q : List Int × List (List Int) => [.val (eWeb w), .val (eT net), .val (eL out), .val (.lst (rows.map eT)), .own true (eL q.1), .val (eT x), .own true (.lst (q.2.map eT)), .no]) (growOne w net x) (fun i q => GrOk w out (cnt out reached) q) q .never (ei_sq (ev_n 2 rfl) rfl) hJ (by repeat (first | exact le_nil | refine le_no ?_ | refine le_eq ?_)) (fun i c g hc hG => ⟨?_, _, _, (eg_n 7 nd), ?_⟩) (fun hG => ?_)
          · exact hG.one (mem_of_get hc) (ho c (mem_of_get hc)) x3
          · refine ss_when (et_w (ew_and (et_c (ec_notIn (ns := g.1) (ev_n 7 rfl) (ev_o 4 rfl) rfl rfl)) (fun _ => (ew_and1 (et_v (ev_call Cg hr (ea_cons (ev_n 0 rfl) (ea_cons (ev_n 1 rfl) (ea_cons (ev_ix (ev_n 5 rfl) (ev_neg ev_i rfl) rfl (by exact lastAt x1)) (ea_cons (ev_n 7 rfl) ea_nil)))) ⟨w, net, lastOf x, c, rfl, W, hn, x2, ho c (mem_of_get hc), rfl⟩) rfl))))) (fun ht => ?_) (fun ht => ?_)
            · have e : growOne w net x g c = (g.1 ++ [c], g.2 ++ [x ++ [c]]) := if_pos ht
              have := hG.a
              have := hG.b
              have hcl := cnt_le out reached
              refine ss_app 4 (ev_n 7 rfl) rfl ?_ ?_
              · rw [List.length_map]; exact szl (by omega)
              · refine ss_app 6 (ev_catT (ev_n 5 rfl) (ev_tup (ea_cons (ev_n 7 rfl) ea_nil)) rfl rfl (by rw [List.length_map]; exact szc (by simp; omega))) rfl ?_ (ss_nil (ss_nil ?_))
                · rw [List.length_map]; exact szl (by omega)
                · rw [e]
                  show Le [_, _, _, _, .own true (eL (g.1 ++ [c])), _, .own true (.lst ((g.2 ++ [x ++ [c]]).map eT)), _] _
                  have e1 : eL (g.1 ++ [c]) = .lst (g.1.map D.int ++ [.int c]) := by rw [eL, List.map_append]; rfl
                  have e2 : (g.2 ++ [x ++ [c]]).map eT = g.2.map eT ++ [.tup (x.map D.int ++ [.int c])] := by rw [List.map_append, List.map_singleton, eT, List.map_append]; rfl
                  rw [e1, e2]
                  repeat (first | exact le_nil | refine le_no ?_ | refine le_eq ?_)
            · have e : growOne w net x g c = g := if_neg (by rw [show (!decide (c ∈ g.1) && goesOn w net (lastOf x) c) = false from ht]; exact Bool.false_ne_true)
              refine ss_nil ?_
              rw [e]
              repeat (first | exact le_nil | refine le_no ?_ | refine le_eq ?_)
          · refine ss_nil ?_
            show Le _ _
            rw [growRow_fold]
            repeat (first | exact le_nil | refine le_no ?_ | refine le_eq ?_)
        · refine ss_fz 6 rfl (ss_set 3 nd (ev_n 6 rfl) (ss_nil ⟨rows.foldl (fun q r => growRow w net r out q) (reached, []), ⟨Gend.b, ?_, Gend.r, k, ?_, hg⟩, ?_, by repeat (first | exact le_nil | refine le_no ?_ | refine le_eq ?_)⟩))
          · have := Gend.a
            have := cnt_le out reached
            omega
          · have := Gend.a
            split
            · omega
            · rename_i hh
              have : 0 < (rows.foldl (fun q r => growRow w net r out q) (reached, [])).2.length := List.length_pos_iff.mpr hh
              omega
          · have := Gend.a
            show cnt out (rows.foldl (fun q r => growRow w net r out q) (reached, [])).1 + _ < cnt out reached + (if rows = [] then 0 else 1)
            rw [if_neg hne]
            split
            · omega
            · rename_i hh
              have : 0 < (rows.foldl (fun q r => growRow w net r out q) (reached, [])).2.length := List.length_pos_iff.mpr hh
              omega
    · obtain ⟨reached, rows⟩ := q
      obtain ⟨hb, hrl2, hrs, n, hnn, hg⟩ := hJ
      dsimp only at hb hrl2 hrs hnn hg ht
      have hne : rows = [] := (pos_ne (g := eT) (xs := rows) ht).2 rfl
      obtain ⟨k, rfl⟩ : ∃ k, n = k + 1 := ⟨n - 1, by omega⟩
      rw [chainGo, if_pos hne] at hg
      refine ss_ret ev_non ⟨_, .inl rfl, ?_⟩
      show RK.v _ = RK.v (eOc (gainingChain w net))
      rw [hg]; rfl
end
end N50
/-! text G3 -/
set_option maxHeartbeats 4000000
namespace N50
open PySem PySem.Spec PyProof.Rows L2
/-! ### comprehensions of two clauses -/
theorem Sim.hideAt {K : PySem.W.Frag} {B : Base} {G : List (D × V)} {M O : Addr → Prop} {H H' : Hp} {σ : L2.St} {ρ : En} {q : Addr} {o : HO} (S : Sim K B G M O H σ ρ) (n : H q = none) (s : Stp false O H H') (e : H' q = some o) : Sim K B G (fun a => M a ∨ a = q) O H' σ ρ := by
  have S2 := S.stp s
  have S1 := S.hide (o := o) n
  have keep : ∀ {N : Addr → Prop} (_ : True), ∀ a u, ¬ N a → NT u = true → upd H q o a = some u → H' a = some u := fun {N} _ a u _ nt ea => by
    by_cases z : a = q
    · subst z; rw [upd_same] at ea; rw [e]; exact ea
    · rw [upd_ne z] at ea; exact s.at nt ea
  refine ⟨S2.len, S2.ext, S2.gd, fun a h => .inl (S2.m0 a h), fun a h => .inl (S2.om a h), fun a h => ?_, S2.on, fun x hx => (S1.gh x hx).to (fun _ _ z => z) (keep trivial), fun i d e => ?_, fun i b d e => ?_, S2.inj, S2.bo⟩
  · rcases h with h | h
    · exact S2.mn a h
    · rw [h, e]; exact fun z => nomatch z
  · obtain ⟨v, h1, h2⟩ := S1.val i d e
    exact ⟨v, h1, h2.to (fun _ _ z => z) (keep trivial)⟩
  · obtain ⟨p, h1, h2, h3, h4⟩ := S1.own i b d e
    obtain ⟨u, eu, nt, _⟩ := h4.nt
    refine ⟨p, h1, h2, h3, h4.to (fun _ _ z => z) (keep trivial) ?_⟩
    rw [eu]
    exact keep (N := fun _ => False) trivial p u id nt eu
theorem flat_snoc {α β : Type} (f : α → List β) (xs : List α) (i : Nat) (x : α) (h : xs[i]? = some x) : (xs.take (i + 1)).flatMap f = (xs.take i).flatMap f ++ f x := by
  rw [List.take_add_one, h, List.flatMap_append]; simp
theorem flat_len {α β : Type} (f : α → List β) (xs : List α) (i : Nat) (x : α) (h : xs[i]? = some x) : ((xs.take i).flatMap f).length + (f x).length ≤ (xs.flatMap f).length := by
  have e : (xs.take (i + 1)).flatMap f ++ (xs.drop (i + 1)).flatMap f = xs.flatMap f := by rw [← List.flatMap_append, List.take_append_drop]
  rw [← e, flat_snoc f xs i x h]
  simp only [List.length_append]; omega
section
variable {X : Cx} {tg iter tg1 iter1 elt : Expr} {ρ ρ0 : En} {m : Bool} {pos : Pos} {js js1 vs vs1 : List Nat}
def Lc2Step {α β : Type} (X : Cx) (scope : Scope) (vs vs1 js js1 : List Nat) (tg tg1 iter1 elt : Expr) (ρ0 : En) (enc : α → D) (zs : α → List β) (enc1 : β → D) (y : β → D) (x : α) : Prop :=
  ∃ ρ1 : En, (∀ s H C cl fp, EvG (Bk X scope s H C cl fp) tg (enc x) js (wipeE ρ0 vs) ρ1) ∧ (∀ s H C cl fp, EvI (Bk X scope s H C cl fp) tg1 iter1 ρ1 ((zs x).map enc1) false ρ1) ∧
    ∀ z ∈ zs x, ∃ ρ2 : En, (∀ s H C cl fp, EvG (Bk X scope s H C cl fp) tg1 (enc1 z) js1 (wipeE ρ1 vs1) ρ2) ∧ ∃ r : RK, (∀ s H C cl fp, Ev (Bk X scope s H C cl fp) elt ρ2 r false ρ2) ∧ r.st = true ∧ r.d = y z
theorem lc2_core50 {α β : Type} {xs : List α} {enc : α → D} {zs : α → List β} {enc1 y : β → D} {scope : Scope} (hi : EvP X tg iter ρ (xs.map enc) m ρ0) (hz0 : (xs.flatMap fun x => (zs x).map y).length ≤ sizeLine)
    (sub : ∀ j ∈ js, j ∈ vs) (sub1 : ∀ j ∈ js1, j ∈ vs1) (step : ∀ x ∈ xs, Lc2Step X scope vs vs1 js js1 tg tg1 iter1 elt ρ0 enc zs enc1 y x)
    (B : Base) (G : List (D × V)) (M O : Addr → Prop) (σ : L2.St) (H : Hp) (Q : VK) (S : Sim X.K B G M O H σ ρ)
    (k : ∀ v H', Stp m O H H' → Sim X.K B G M O H' σ ρ0 → ResOk X.K M H H' (.n (.lst (xs.flatMap fun x => (zs x).map y))) v → Q v H') : tLc2 (wI X tg iter) (bG X scope tg) (bTs X scope []) (bI X scope tg1 iter1) (bG X scope tg1) (bTs X scope []) (bE X scope elt) vs vs1 σ H Q := by
  refine hi B G M O σ H _ S fun J H1 s1 S1 hz hT => fun q hq => ?_
  rw [List.length_map] at hz
  have nO : ¬ O q := fun z => S1.mn q (S1.om q z) hq
  have nB : ¬ B.M q ∧ B.H q = none := ⟨fun z => S1.mn q (S1.m0 q z) hq, S1.ext.no hq⟩
  let f : α → List D := fun x => (zs x).map y
  let P : Nat → Hp → Prop := fun i H' => i ≤ xs.length ∧ Stp false O H1 H' ∧ ∃ acc, H' q = some (.lst acc) ∧ DenL X.K (fun a => M a ∨ a = q) H' ((xs.take i).flatMap f) acc
  refine ⟨fun i n H' => P i H' ∧ n = xs.length - i, ⟨xs.length, ⟨Nat.zero_le _, Stp.new hq, [], upd_same, by simp; exact .nil⟩, by omega⟩, fun i n H' hP => ?_⟩
  obtain ⟨⟨hi', s2, acc, ea, dl⟩, hn⟩ := hP
  have S2 := S1.hideAt hq s2 ea
  have T := hT (fun a => M a ∨ a = q) H' (fun a h => h.imp id fun z => by rw [z]; exact hq) S2.mn s2
  by_cases hil : i < xs.length
  · obtain ⟨x, hx⟩ : ∃ x, xs[i]? = some x := ⟨xs[i], List.getElem?_eq_getElem hil⟩
    have hxm : x ∈ xs := List.mem_of_getElem? hx
    obtain ⟨go, yl⟩ := T.1 i (enc x) (by rw [List.getElem?_map, hx]; rfl)
    refine .inr ⟨go, fun H' => P (i + 1) H', fun H2 h => ⟨xs.length - (i + 1), by omega, h, rfl⟩, fun v H2 hy => ?_⟩
    obtain ⟨s3, dv⟩ := yl v H2 hy
    have s3' : Stp false O H' H2 := s3.of
    have S3 := S2.stp s3'
    obtain ⟨ρ1, eg, ei, ee⟩ := step x hxm
    intro s' H'' C cl fp
    refine eg s' H'' C cl fp B G _ O _ H2 v _ (S3.wipe _) dv fun us S4 => ⟨wipe_setAll sub wipe_same, ?_⟩
    intro s' H'' C cl fp
    refine ets_nil B G _ O _ H2 _ S4 fun H3 s5 S5 => ?_
    rw [if_pos rfl]
    intro s' H'' C cl fp
    refine ei s' H'' C cl fp B G _ O _ H3 _ S5 fun J1 H4 Γ s6 S6 hΓ hz1 hG => ?_
    have s24 : Stp false O H' H4 := (s3'.trans s5).trans s6
    let P1 : Nat → Hp → Prop := fun j Hj => j ≤ (zs x).length ∧ Stp false O H1 Hj ∧ Sim X.K B (Γ ++ G) (fun a => M a ∨ a = q) O Hj (setAll (L2.wipe σ vs) js us) ρ1 ∧ ∃ acc, Hj q = some (.lst acc) ∧ DenL X.K (fun a => M a ∨ a = q) Hj ((xs.take i).flatMap f ++ ((zs x).take j).map y) acc
    refine ⟨fun j k Hj => P1 j Hj ∧ k = (zs x).length - j, ⟨(zs x).length, ⟨Nat.zero_le _, s2.trans s24, S6.gadd hΓ, acc, s24.at rfl ea, ?_⟩, by omega⟩, fun j k' Hj hP1 => ?_⟩
    · rw [List.take_zero, List.map_nil, List.append_nil]
      exact dl.to (fun _ _ z => z) fun a o _ nt e => s24.at nt e
    obtain ⟨⟨hj', t2, U2, acc1, ea1, dl1⟩, hn1⟩ := hP1
    have T1 := hG (fun a => M a ∨ a = q) Hj U2.mn fun x hx => U2.gh x (List.mem_append_left _ hx)
    by_cases hjl : j < (zs x).length
    · obtain ⟨z, hzj⟩ : ∃ z, (zs x)[j]? = some z := ⟨(zs x)[j], List.getElem?_eq_getElem hjl⟩
      have hzm : z ∈ zs x := List.mem_of_getElem? hzj
      obtain ⟨go1, yl1⟩ := T1.1 j (enc1 z) (by rw [List.getElem?_map, hzj]; rfl)
      refine .inr ⟨go1, fun H' => P1 (j + 1) H', fun H2 h => ⟨(zs x).length - (j + 1), by omega, h, rfl⟩, fun v1 H5 hy1 => ?_⟩
      obtain ⟨s8, dv1⟩ := yl1 v1 H5 hy1
      have s8' : Stp false O Hj H5 := s8.of
      obtain ⟨ρ2, eg1, r, er, st, ey⟩ := ee z hzm
      intro s' H'' C cl fp
      refine eg1 s' H'' C cl fp B (Γ ++ G) _ O _ H5 v1 _ ((U2.stp s8').wipe _) dv1 fun us1 S9 => ⟨wipe_setAll sub1 wipe_same, ?_⟩
      intro s' H'' C cl fp
      refine ets_nil B (Γ ++ G) _ O _ H5 _ S9 fun H6 s10 S10 => ?_
      rw [if_pos rfl]
      intro s' H'' C cl fp
      refine er s' H'' C cl fp B (Γ ++ G) _ O _ H6 _ S10 fun w H7 s11 S11 rw_ => ?_
      have s57 : Stp false O Hj H7 := (s8'.trans s10).trans s11
      have q7 : H7 q = some (.lst acc1) := s57.at rfl ea1
      have dl7 := dl1.to (M' := fun a => M a ∨ a = q) (H' := H7) (fun _ _ z => z) fun a o _ nt e => s57.at nt e
      have dw := rw_.den st S10.mn
      rw [ey] at dw
      have hl := dl1.length
      have hfl := flat_len f xs i x hx
      have hfx : (f x).length = (zs x).length := List.length_map ..
      have hlt : acc1.length < sizeLine := by
        rw [← hl, List.length_append, List.length_map, List.length_take]
        have : (xs.flatMap f).length ≤ sizeLine := hz0
        omega
      have dn : DenL X.K (fun a => M a ∨ a = q) H7 ((xs.take i).flatMap f ++ ((zs x).take (j + 1)).map y) (acc1 ++ [w]) := by
        rw [List.take_add_one, hzj, List.map_append, ← List.append_assoc]
        exact dl7.append (.cons dw .nil)
      have t27 : Stp false O H1 H7 := t2.trans s57
      refine ⟨acc1, q7, hlt, hjl, ⟨fun a o n nt e => ?_, fun a h => ?_, fun p h => TabQ.put (t27.t p h) q7 rfl⟩, ?_, acc1 ++ [w], upd_same, ?_⟩
      · have na : a ≠ q := fun z => by rw [z, hq] at e; cases e
        rw [upd_ne na]
        exact t27.at nt e
      · by_cases z : a = q
        · rw [z, upd_same]; exact fun q => nomatch q
        · rw [upd_ne z]; exact t27.d a h
      · exact (U2.stp s57).hid q7 nO nB
      · exact dn.to (fun _ _ z => z) fun a o n _ e => by rw [upd_ne (fun z => n (.inr z))]; exact e
    · have ej : j = (zs x).length := by omega
      subst ej
      rw [List.take_length] at dl1
      refine .inl ⟨by have := T1.2; rwa [List.length_map] at this, hil, t2, acc1, ea1, ?_⟩
      rw [flat_snoc f xs i x hx]
      exact dl1
  · have ei : i = xs.length := by omega
    subst ei
    rw [List.take_length] at dl
    refine .inl ⟨by have := T.2; rwa [List.length_map] at this, k _ H' (by have := s1.trans s2; rwa [Bool.or_false] at this) (S1.stp s2) ⟨q, rfl, s1.fresh S1.om S1.mn hq, hz0, acc, ea, dl⟩⟩
theorem ev_lc2 {α β : Type} {xs : List α} {enc : α → D} (zs : α → List β) (enc1 y : β → D) {scope : Scope} (own : List (Str × Nat)) (vs1 : List Nat) (hN : X.N.Nodup) (hi : EvP X tg iter ρ (xs.map enc) m ρ0) (hz0 : (xs.flatMap fun x => (zs x).map y).length ≤ sizeLine)
    (step : ∀ x ∈ xs, Lc2Step X scope (own.map (·.2)) vs1 js js1 tg tg1 iter1 elt ρ0 enc zs enc1 y x) (sub : ∀ j ∈ js, j ∈ own.map (·.2) := by decide) (sub1 : ∀ j ∈ js1, j ∈ vs1 := by decide) (hv : ∀ i ∈ vs1, i ∈ own.map (·.2) := by decide) (hb : blkC X.N X.env.scope scope own = true := by kernel_rfl) (hc : X.calm = true := by rfl) (hs : ∀ x, foldedSetIterable iter X.env x = pure x := by intro _; rfl) (hs1 : ∀ env x, foldedSetIterable iter1 env x = pure x := by intro _ _; rfl) :
    Ev X (.ListComp elt [⟨tg, iter, [], 0⟩, ⟨tg1, iter1, [], 0⟩] scope pos) ρ (.n (.lst (xs.flatMap fun x => (zs x).map y))) m ρ0 := fun B G M O σ H Q S k =>
  ⟨_, pe_lc2 hc hN pi_w (blkOk_by hb) hv pg_b pts_b pi_b pg_b pts_b pe_b hs hs1, lc2_core50 hi hz0 sub sub1 step B G M O σ H Q S k⟩
end
end N50
/-! text G4 -/
set_option maxHeartbeats 4000000
namespace N50
open PySem PySem.Spec PyProof.Rows L2
/-! ### a lambda as a value -/
/-- the function object of a lambda, and its code -/
def FunO (f : Addr) (qual : Str) (params : Arguments) (body : Expr) (scope : Scope) (clos : List (Str × Addr)) (c' : Addr) (pm ctv : Value) : HO :=
  .ext fun h => h.get? f = some (PySem.W.kla_obj "<lambda>" qual params body scope clos pm c' ctv)
theorem tabQ_step {H : Hp} {p c' : Addr} {pos : Pos} {ps : Array Value} (t : LamX.TabS H p LQ) (hP : H p = some (.tbl ps)) (hn : H c' = none) :
    Stp false (fun _ => False) H (upd (upd H p (.tbl (ps ++ #[rawInt pos.line, rawInt pos.col, .ref c']))) c' (LamX.CodeO c' LQ)) := by
  have key : ∀ b u, NT u = true → H b = some u → upd (upd H p (.tbl (ps ++ #[rawInt pos.line, rawInt pos.col, .ref c']))) c' (LamX.CodeO c' LQ) b = some u := fun b u nt e => by
    rw [upd_ne (ne_of_none e hn), upd_ne (fun z => by rw [z, hP] at e; cases e; cases nt)]
    exact e
  refine ⟨fun b u _ nt e => key b u nt e, fun b e => ?_, fun p2 t2 => ?_⟩
  · by_cases h1 : b = c'
    · rw [h1, upd_same]; exact fun z => nomatch z
    · rw [upd_ne h1]
      by_cases h2 : b = p
      · rw [h2, upd_same]; exact fun z => nomatch z
      · rw [upd_ne h2]; exact e
  · obtain ⟨qs, g1, g2, g3⟩ := t2
    have np : p2 ≠ c' := ne_of_none g1 hn
    by_cases e2 : p2 = p
    · subst e2
      rw [hP] at g1
      cases g1
      refine ⟨_, by rw [upd_ne np, upd_same], ?_, fun q cv hcv => ?_⟩
      · have eL : (ps ++ #[rawInt pos.line, rawInt pos.col, .ref c']).toList = ps.toList ++ [rawInt pos.line, rawInt pos.col, .ref c'] := by simp
        rw [eL]; exact PySem.TriplesOk_snoc _ _ _ _ g2
      · have eL : (ps ++ #[rawInt pos.line, rawInt pos.col, .ref c']).toList = ps.toList ++ [rawInt pos.line, rawInt pos.col, .ref c'] := by simp
        rw [eL] at hcv
        rcases LamX.among_app _ g2 hcv with z | z
        · obtain ⟨d, d1, d2⟩ := g3 q cv z
          exact ⟨d, d1, key d _ rfl d2⟩
        · exact ⟨c', z, upd_same⟩
    · refine ⟨qs, by rw [upd_ne np, upd_ne e2]; exact g1, g2, fun q cv hcv => ?_⟩
      obtain ⟨d, d1, d2⟩ := g3 q cv hcv
      exact ⟨d, d1, key d _ rfl d2⟩
section
variable {X : Cx} {params : Arguments} {body : Expr} {scope : Scope} {pos : Pos} {c p : Addr}
/-- what a lambda's making gives -/
def tLamV (X : Cx) (params : Arguments) (body : Expr) (scope : Scope) (p : Addr) : TE := fun σ H Q => TabQ H p ∧ ∀ (f c' : Addr) (pm ctv : Value) (H1 : Hp), Stp false (fun _ => False) H H1 → H1 f = none → H1 c' = some (LamX.CodeO c' LQ) →
  Q (.ref f) (upd H1 f (FunO f LQ params body scope (cloFrom X.env.cells scope.names []) c' pm ctv))
theorem pe_lam (TB : LamX.TabB X.base X.mg c p) (hcode : X.env.code = .ref c) (hq : X.env.qual ++ "<lambda>" = LQ) (hdef : defaultsOf params X.env = ([], [])) (L : ∀ y ∈ scope.names, y.2 = .free → X.env.kindOf y.1 = some .cell ∨ X.env.kindOf y.1 = some .free) :
    PE X (.Lambda params body scope pos) (tLamV X params body scope p) := by
  refine ⟨fun pins s σ H Q I h => ?_⟩
  obtain ⟨hT, k⟩ := h
  obtain ⟨ps, hP, ht, ha⟩ := id hT
  have hfree : ∀ y ∈ scope.names, y.2 = .free → ∃ d, X.env.cells.lookup y.1 = some d := fun y hy e => I.ok.has _ (L y hy e)
  have atP : s.heap.get? p = some { cls := .none, data := .fields ps } := I.hok p _ hP
  refine PySem.W.kla_eval hdef ?_
  have fin : ∀ (f c' : Addr) (pm ctv : Value) (H1 : Hp) (h0 : Heap) (tk : Nat), Inv X pins σ H1 { s with heap := h0, toks := tk } → f = h0.objs.size → Stp false (fun _ => False) H H1 → H1 c' = some (LamX.CodeO c' LQ) →
      EP X pins σ Q (.ref f) { s with heap := h0.push (PySem.W.kla_obj "<lambda>" (X.env.qual ++ "<lambda>") params body scope (cloFrom X.env.cells scope.names []) pm c' ctv), toks := tk } := fun f c' pm ctv H1 h0 tk I1 ef st hc => by
    subst ef
    have fresh : H1 h0.objs.size = none := I1.hok.fresh (Nat.le_refl _)
    refine ⟨.ref h0.objs.size, _, I1.laid (t' := tk) (o := FunO h0.objs.size LQ params body scope (cloFrom X.env.cells scope.names []) c' pm ctv) (fun b u e => Heap.get?_push_of_some _ e) (Nat.le_refl _) ?_, rfl, k _ _ _ _ _ st fresh hc⟩
    rw [← hq]
    exact ⟨Heap.get?_push_size _ rfl, ⟨_, Heap.get?_push_size _ rfl⟩, fun h1 h2 e st => st _ e⟩
  cases hc : codeAmong pos ps.toList with
  | none =>
    refine PySem.W.kla_makeFunction (mg := X.mg) (c := c) (P := p) (ps := ps) (closure_ok hfree) I.ok.glob (I.mod.glob.keeps I.bk) hcode (TB.code.keeps I.bk) atP ht hc TB.gP (TB.bm.keeps I.bk) fun c' ctv h' tk hx hge hlt hrec htb => ?_
    obtain ⟨c2, oc, vs, t, e2, hoc, hd, hv⟩ := hrec
    cases e2
    rw [hq] at hv
    have I1 := LamX.inv_table (q := LQ) (t' := tk) (more := #[rawInt pos.line, rawInt pos.col, .ref c']) I hP hx htb hge ⟨oc, vs, t, hoc, hd, hv⟩
    exact fin _ c' _ ctv _ h' tk I1 rfl (tabQ_step hT hP (I.hok.fresh hge)) upd_same
  | some cv =>
    obtain ⟨c', e, hco⟩ := ha pos cv hc
    subst e
    refine PySem.W.kla_makeFunctionHit (mg := X.mg) (c := c) (P := p) (ps := ps) (closure_ok hfree) I.ok.glob (I.mod.glob.keeps I.bk) hcode (TB.code.keeps I.bk) atP ht hc (TB.bm.keeps I.bk) fun ctv h' tk hx hsz => ?_
    exact fin _ c' _ ctv H h' tk (I.kept hx) rfl Stp.refl hco
end
end N50
/-! text G5 -/
set_option maxHeartbeats 4000000
namespace N50
open PySem PySem.Spec PyProof.Rows L2 PySem.W
/-! ### the key of a trader's sort: (price, number) -/
section
variable {prog : Program} {w : World} {A : Around} {E : Value → Shared → Prop} {s : Shared} {env : Env} {pos p1 p2 p3 p4 p5 p6 : Pos} {j j2 : Nat}
theorem tup_item {a : Expr} {b : Expr} {t : Addr} {its : Array Value} {k : Int} {u : Tok} {v : Value} {Q : Value → Shared → Prop} (ht : IsTup s.heap t its) (h0 : 0 ≤ k) (h1 : its[k.toNat]? = some v) (hz : its.size ≤ sizeLine) (h : Q v s) (hs : ∀ o i, subscripted b false o i = operate [o, i] (getItem o i)) :
    wpAny (model prog w) A (subscriptTail a b (.ref t) (.int k u)) Q E s := by
  have hlt : k.toNat < its.size := by
    rcases Nat.lt_or_ge k.toNat its.size with z | z
    · exact z
    · rw [Array.getElem?_eq_none (by omega)] at h1; cases h1
  have hn := line63
  refine subscriptTail_builtinR (x := v) ht.typeIs slot_tuple_getitem.lookup (getItem_tuple (j := k.toNat) ht (by omega) (by omega) (seqIndex_of h0 (by omega)) h1 ⟨rfl, h⟩) (hs _ _)
structure KeyAt (env : Env) (h : Heap) (x : Int) (t : Tok) (pr : Int) : Prop where
  kind : env.scope.kind = .function
  k1 : env.kindOf "contracts" = some .free
  k2 : env.kindOf "contract" = some .local
  loc : ∃ m, h.Ns env.locals m ∧ m "contract" = some (.int x t)
  it : ∃ (cc ct tj : Addr) (its js : Array Value) (u : Tok), env.cells.lookup ("contracts" : Str) = some cc ∧ h.IsCell cc (some (.ref ct)) ∧ IsTup h ct its ∧ its.size ≤ sizeLine ∧ 0 ≤ x ∧ its[x.toNat]? = some (.ref tj) ∧ IsTup h tj js ∧ js.size ≤ sizeLine ∧ js[2]? = some (.int pr u)
theorem key_price {x pr : Int} {t : Tok} {Q : Value → Shared → Prop} (K : KeyAt env s.heap x t pr) (h : ∀ u tk, Q (.int pr u) { s with toks := tk }) :
    wpAny (model prog w) A (eval (.Subscript (.Subscript (.Name "contracts" p1) (.Name "contract" p2) p3) (.Constant (.int 2) j p4) p5) env) Q E s := by
  obtain ⟨m, hm, hx⟩ := K.loc
  obtain ⟨cc, ct, tj, its, js, u, c1, c2, c3, c4, c5, c6, c7, c8, c9⟩ := K.it
  refine Subscript_ (Subscript_ (wpAny_Name (wpAny_loadName_free K.kind K.k1 c1 c2 ?_)))
  refine wpAny_Name (wpAny_loadName_local K.kind K.k2 hm hx ?_)
  refine tup_item c3 c5 c6 c4 ?_ fun _ _ => rfl
  refine wpAny_Constant_int ?_
  refine tup_item (s := { s with toks := s.toks + 1 }) c7 (by decide) c9 c8 (h _ _) fun _ _ => rfl
def keyE (neg : Bool) (p1 p2 p3 p4 p5 p6 : Pos) (j : Nat) : Expr := if neg then .UnaryOp .USub (.Subscript (.Subscript (.Name "contracts" p1) (.Name "contract" p2) p3) (.Constant (.int 2) j p4) p5) p6 else .Subscript (.Subscript (.Name "contracts" p1) (.Name "contract" p2) p3) (.Constant (.int 2) j p4) p5
def keyI (neg : Bool) (i : Int) : Int := if neg then -i else i
theorem key_first {neg : Bool} {x pr : Int} {t : Tok} {Q : Value → Shared → Prop} (K : KeyAt env s.heap x t pr) (h : ∀ u tk, Q (.int (keyI neg pr) u) { s with toks := tk }) :
    wpAny (model prog w) A (eval (keyE neg p1 p2 p3 p4 p5 p6 j) env) Q E s := by
  cases neg with
  | false => exact key_price K h
  | true => exact UnaryOp_ (key_price K fun u tk => neg_int (h _ _))
theorem key_eval {neg : Bool} {x pr : Int} {t : Tok} {q1 q2 : Pos} {Q : Value → Shared → Prop} (K : KeyAt env s.heap x t pr) (h : ∀ u tk, Q (.ref s.heap.objs.size) { s with heap := s.heap.push { cls := .type "tuple", data := .seq #[.int (keyI neg pr) u, .int x t] }, toks := tk }) (hs : starEach [keyE neg p1 p2 p3 p4 p5 p6 j, .Name "contract" q1] env = [(false, eval (keyE neg p1 p2 p3 p4 p5 p6 j) env), (false, eval (.Name "contract" q1) env)]) :
    wpAny (model prog w) A (eval (.Tuple [keyE neg p1 p2 p3 p4 p5 p6 j, .Name "contract" q1] j2 q2) env) Q E s := by
  refine wpAny_Tuple_spliced ?_
  rw [hs]
  refine Calls.spliced_cons (key_first K fun u tk => ?_)
  obtain ⟨m, hm, hx⟩ := K.loc
  refine Calls.spliced_cons (wpAny_Name (wpAny_loadName_local K.kind K.k2 hm hx ?_))
  refine Calls.spliced_nil ⟨by show 2 ≤ sizeLine; decide, ?_⟩
  exact h u tk
/-- the lambda called -/
theorem key_call {neg : Bool} {f c' ct tj cc : Addr} {x pr : Int} {t : Tok} {q1 q2 : Pos} {params : Arguments} {scope : Scope} {clos : List (Str × Addr)} {pm ctv : Value} {its js : Array Value} {u : Tok} (hroom : A.depth < recursionLimit) (hl : s.heap.NoLimit)
    (hf : s.heap.get? f = some (kla_obj "<lambda>" LQ params (.Tuple [keyE neg p1 p2 p3 p4 p5 p6 j, .Name "contract" q1] j2 q2) scope clos pm c' ctv)) (hc : ∃ oc vs t, s.heap.get? c' = some oc ∧ oc.data = .fields vs ∧ vs[1]? = some (.str LQ t))
    (hk : scope.kind = .function) (hco : scope.isCoroutine = false) (hgen : scope.isGenerator = false) (hce : ∀ y ∈ scope.names, y.2 ≠ .cell) (n1 : scope.names.lookup ("contracts" : Str) = some .free) (n2 : scope.names.lookup ("contract" : Str) = some .local)
    (hbind : ∀ v, bindArgs (kla_fn "<lambda>" LQ params (.Tuple [keyE neg p1 p2 p3 p4 p5 p6 j, .Name "contract" q1] j2 q2) scope clos pm (.ref c') ctv) ⟨[v], []⟩ = pure [(("contract" : Str), v)])
    (c1 : clos.lookup ("contracts" : Str) = some cc) (c2 : s.heap.IsCell cc (some (.ref ct))) (c3 : IsTup s.heap ct its) (c4 : its.size ≤ sizeLine) (c5 : 0 ≤ x) (c6 : its[x.toNat]? = some (.ref tj)) (c7 : IsTup s.heap tj js) (c8 : js.size ≤ sizeLine) (c9 : js[2]? = some (.int pr u)) :
    wpAny (model prog w) A (call (.ref f) [.int x t]) (KeyPure (.tuple [.int (keyI neg pr), .int x]) s) E s := by
  obtain ⟨oc, vs, tq, hoc, hdc, hvc⟩ := hc
  refine wpAny_call (kla_callFunE hroom hf rfl hco hgen rfl ⟨c', oc, vs, tq, rfl, hoc, hdc, hvc⟩ ?_)
  rw [hbind]
  refine wpAny_pure (wpAny_newFunctionEnv hce (fun y hy => ?_) (fun h₁ hns hsb => ⟨hl.fresh _ hsb, ?_⟩) hk)
  · rw [List.mem_singleton.mp hy]; exact n2
  · show codeAny _ _ (.expr _ (envX LQ scope s.heap.objs.size f (.ref c') clos)) _ _
    have kp : ∀ b o, s.heap.get? b = some o → h₁.get? b = some o := fun b o e => hsb.extBut b o (Nat.ne_of_lt (Heap.lt_size e)) (Heap.get?_push_of_some _ e)
    refine kla_codeExpr (key_eval (x := x) (t := t) (pr := pr) (s := { s with heap := h₁, toks := s.toks + 1 }) ⟨hk, n1, n2, ⟨_, hns, by simp [List.lookup]⟩, cc, ct, tj, its, js, u, c1, ?_, ?_, c4, c5, c6, ?_, c8, c9⟩ (fun u tk => ?_) (by cases neg <;> rfl))
    · obtain ⟨o, ho, hd⟩ := c2; exact ⟨o, kp _ _ ho, hd⟩
    · obtain ⟨o, ho, hd⟩ := c3; exact ⟨o, kp _ _ ho, hd⟩
    · obtain ⟨o, ho, hd⟩ := c7; exact ⟨o, kp _ _ ho, hd⟩
    · refine ⟨_, tk, rfl, fun b o e => Heap.get?_push_of_some _ (kp b o e), ?_⟩
      exact Reads.tuple (n := 0) (Heap.get?_push_size _ rfl) rfl rfl (.cons (.int _ _) (.cons (.int _ _) .nil))
end
end N50
/-! text G6 -/
set_option maxHeartbeats 4000000
namespace N50
open PySem PySem.Spec PyProof.Rows L2 PySem.W
def kle (neg : Bool) (f : Int → Int) (x y : Int) : Bool := decide (keyI neg (f x) < keyI neg (f y) ∨ (keyI neg (f x) = keyI neg (f y) ∧ x ≤ y))
structure LamOk (X : Cx) (params : Arguments) (body : Expr) (scope : Scope) : Prop where
  hq : X.env.qual ++ "<lambda>" = LQ
  hdef : defaultsOf params X.env = ([], [])
  L : ∀ y ∈ scope.names, y.2 = .free → X.env.kindOf y.1 = some .cell ∨ X.env.kindOf y.1 = some .free
  hk : scope.kind = .function
  hco : scope.isCoroutine = false
  hgen : scope.isGenerator = false
  hce : ∀ y ∈ scope.names, y.2 ≠ .cell
  n1 : scope.names.lookup ("contracts" : Str) = some .free
  n2 : scope.names.lookup ("contract" : Str) = some .local
  kc : X.env.kindOf ("contracts" : Str) = some .cell
  hbind : ∀ (q : Str) (clos : List (Str × Addr)) (pm cv ctv v : Value), bindArgs (kla_fn "<lambda>" q params body scope clos pm cv ctv) ⟨[v], []⟩ = pure [(("contract" : Str), v)]
section
variable {X : Cx} {a : Expr} {ρ ρ1 : En} {m : Bool} {r : RK} {p pos kpos lpos p1 p2 p3 p4 p5 p6 q1 q2 : Pos} {j j2 : Nat} {params : Arguments} {scope : Scope} {c tp : Addr}
theorem ev_sortLam {neg : Bool} {ns : List Int} {cs : List Con} {k : Nat} (i : Nat) (LO : LamOk X params (.Tuple [keyE neg p1 p2 p3 p4 p5 p6 j, .Name "contract" q1] j2 q2) scope) (TB : LamX.TabB X.base X.mg c tp) (hT : tabIn X.K "traded" = some (c, tp)) (hcode : X.env.code = .ref c) (hr : Room k X.A)
    (h : Ev X a ρ r m ρ1) (ed : r.d = .lst (ns.map .int)) (hi : ρ1[i]? = some (.val (.tup (cs.map eCon)))) (hN : X.N[i]? = some ("contracts" : Str)) (hx : ∀ n ∈ ns, 0 ≤ n ∧ n < (cs.length : Int)) (hm : X.mg "sorted" = none) (hg : Gl X "sorted" := by rfl) (hc : X.calm = true := by rfl)
    (he : backTo pos (starEach [a] X.env) = (false, eval a X.env) :: backTo pos (starEach [] X.env) := by rfl) (hpl : (backTo pos (starEach [a] X.env)).any (·.1) = false := by rfl)
    (hall : (backToKw pos (keywordEach [⟨some "key", .Lambda params (.Tuple [keyE neg p1 p2 p3 p4 p5 p6 j, .Name "contract" q1] j2 q2) scope lpos, kpos⟩] X.env)).all (·.1.isSome) = true := by rfl) (hnone : (backToKw pos (keywordEach [⟨some "key", .Lambda params (.Tuple [keyE neg p1 p2 p3 p4 p5 p6 j, .Name "contract" q1] j2 q2) scope lpos, kpos⟩] X.env)).any (·.1.isNone) = false := by rfl) (hks : (backToKw pos (keywordEach [⟨some "key", .Lambda params (.Tuple [keyE neg p1 p2 p3 p4 p5 p6 j, .Name "contract" q1] j2 q2) scope lpos, kpos⟩] X.env)).filterMap (·.1) = [("key" : Str)] := by rfl) (hes : starEach [a] X.env = (false, eval a X.env) :: starEach [] X.env := by rfl) :
    Ev X (.Call (.Name "sorted" p) [a] [⟨some "key", .Lambda params (.Tuple [keyE neg p1 p2 p3 p4 p5 p6 j, .Name "contract" q1] j2 q2) scope lpos, kpos⟩] pos) ρ (.n (.lst ((ns.mergeSort (kle neg (price cs))).map .int))) m ρ1 := fun B G M O σ H Q S kk => by
  -- the reading
  refine ⟨fun σ H Q => wA X [a] σ H fun vs H1 => ∃ l ct, vs = [.ref l] ∧ TabQ H1 tp ∧ H1 l = some (.lst (ns.map V.int)) ∧ ns.length ≤ sizeLine ∧ σ[i]? = some (some (.ref ct)) ∧ (∃ vs, Rd H1 ct (.tup vs) ∧ ∀ n ∈ ns, ∃ tj s b, vs[n.toNat]? = some (.ref tj) ∧ Rd H1 tj (.tup [.int s, .int b, .int (price cs n)])) ∧
      ∀ H2 q, Stp false (fun _ => False) H1 H2 → H2 q = none → Q (.ref q) (upd H2 q (.lst ((ns.mergeSort (kle neg (price cs))).map V.int))), ⟨fun pins s σ H Q I hh => ?_⟩, ?_⟩
  · refine wpAny_Call_Name_kw (ld_blt I hg hm boot_sorted ?_)
    refine PyProof.Rows.callWith_kw (thn (pa_w.run pos pins s σ H _ I hh) fun us s1 ⟨vs, H1, I1, r1, q1⟩ => ?_) he hpl hall hnone
    obtain ⟨l, ct, rfl, hTq, hl, hz, hct, ⟨cv, hcv, hit⟩, fin⟩ := q1
    refine thn ((pk_cons (pe_lam TB hcode LO.hq LO.hdef LO.L) pk_nil).run pos pins s1 σ H1 (fun zs H2 => ∃ f c' pm ctv H1', zs = [.ref f] ∧ Stp false (fun _ => False) H1 H1' ∧ H1' f = none ∧ H1' c' = some (LamX.CodeO c' LQ) ∧ H2 = upd H1' f (FunO f LQ params (.Tuple [keyE neg p1 p2 p3 p4 p5 p6 j, .Name "contract" q1] j2 q2) scope (cloFrom X.env.cells scope.names []) c' pm ctv)) I1 ⟨hTq, fun f c' pm ctv H1' st nf hc' => ⟨f, c', pm, ctv, H1', rfl, st, nf, hc', rfl⟩⟩) fun ws s2 ⟨zs, H2, I2, r2, q2⟩ => ?_
    obtain ⟨f, c', pm, ctv, H1', rfl, st, nf, hc', rfl⟩ := q2
    obtain rfl := Vals.ref1 r1
    obtain rfl := Vals.ref1 r2
    rw [hks]
    show wpAny _ _ (call (.builtin "sorted") [.ref l] [(("key" : Str), .ref f)]) _ _ _
    have st2 : Stp false (fun _ => False) H1 (upd H1' f (FunO f LQ params (.Tuple [keyE neg p1 p2 p3 p4 p5 p6 j, .Name "contract" q1] j2 q2) scope (cloFrom X.env.cells scope.names []) c' pm ctv)) := st.trans (Stp.new (m := false) nf)
    obtain ⟨its, rv, pl, hzl⟩ := I2.list (a := l) (xs := ns.map V.int) (.inl (.inl (st2.at rfl hl)))
    obtain ⟨cits, crv, cpl, cz⟩ := I2.tuple (.inl (st2.rd rfl hcv))
    have hfun := (I2.hok f _ upd_same).1
    have hcd : ∃ oc vs t, s2.heap.get? c' = some oc ∧ oc.data = .fields vs ∧ vs[1]? = some (.str LQ t) := by
      have z := I2.hok c' (LamX.CodeO c' LQ) (by rw [upd_ne (ne_of_none hc' nf)]; exact hc')
      unfold LamX.CodeO at z
      exact z.1
    obtain ⟨mm, hmm, hloc⟩ := I2.loc
    obtain ⟨u, hu, hlk⟩ := hloc i _ _ hN hct (.inr (.inl LO.kc))
    obtain rfl : u = .ref ct := hu
    obtain ⟨cc, hcc, hcell⟩ : ∃ cc, X.env.cells.lookup ("contracts" : Str) = some cc ∧ s2.heap.IsCell cc (some (.ref ct)) := by
      rcases hlk with ⟨z, _⟩ | ⟨_, z⟩
      · rw [LO.kc] at z; cases z
      · exact z
    have hclo : (cloFrom X.env.cells scope.names []).lookup ("contracts" : Str) = some cc := by
      obtain ⟨d, hd⟩ := L2.mem_lookup (cloFrom_has (cells := X.env.cells) (acc := []) (PySem.mem_of_lookup LO.n1))
      rcases cloFrom_mem (PySem.mem_of_lookup hd) with z | ⟨_, z⟩
      · cases z
      · rw [hd, z, hcc]; rfl
    refine sorted_key_data (b := false) (R := RI) (fun n : Int => .tuple [.int (keyI neg (price cs n)), .int n]) pl.isList (each_RI rv) (AllAlike.of fun _ _ => by simp [alike, alikeAll]) (Sortable.tuples fun _ => ⟨_, _, rfl⟩) hz (fun n _ => ?_) (ksk_s1 _ _) (fun _ => ksk_l1 _ _) (fun _ => ksk_t1 _ _) (fun v n hv hn h tk kp => ?_) fun out cc2 h' tk kp fr hD ho eo => ?_
    · have hd : (PyData.tuple [.int (keyI neg (price cs n)), .int n]).depth = 1 := by simp [PyData.depth, PyData.depthAll]
      have := hr.units
      rw [hd]; omega
    · obtain ⟨t, rfl⟩ := hv
      obtain ⟨tj, sv, bv, h1, h2⟩ := hit n hn
      obtain ⟨tits, trv, tpl, tz⟩ := I2.tuple (.inl (st2.rd rfl h2))
      obtain ⟨w1, e1, r1'⟩ := crv.get h1
      obtain rfl : w1 = .ref tj := r1'
      obtain ⟨w2, e2, r2'⟩ := trv.get (i := 2) rfl
      obtain ⟨pu, rfl⟩ := r2'
      have kpT : ∀ {b : Addr} {xs : Array Value}, IsTup s2.heap b xs → IsTup h b xs := fun {b xs} ⟨o, ho, hd⟩ => ⟨o, kp _ _ ho, hd⟩
      refine key_call (s := { s2 with heap := h, toks := tk }) (its := cits.toArray) (js := tits.toArray) (ct := ct) (tj := tj) (cc := cc) (u := pu) hr.depth (I2.nolimit.keeps kp) (kp _ _ hfun) ?_ LO.hk LO.hco LO.hgen LO.hce LO.n1 LO.n2 (fun v => LO.hbind _ _ _ _ _ v) hclo ?_ (kpT cpl) ?_ (hx n hn).1 (by simpa using e1) (kpT tpl) ?_ (by simpa using e2)
      · obtain ⟨oc, vs, t, g1, g2, g3⟩ := hcd
        exact ⟨oc, vs, t, kp _ _ g1, g2, g3⟩
      · obtain ⟨o, ho, hd⟩ := hcell
        exact ⟨o, kp _ _ ho, hd⟩
      · rw [List.size_toArray, ← crv.length]; exact cz
      · rw [List.size_toArray, ← trv.length]; exact tz
    · rw [dataLe_ii (β := Int) (fun n => keyI neg (price cs n)) fun n => n] at eo
      have hlen : ((ns.mergeSort (kle neg (price cs))).map V.int).length ≤ sizeLine := by rw [List.length_map, List.length_mergeSort]; exact hz
      exact ⟨.ref _, _, I2.laid (t' := tk) (o := .lst ((ns.mergeSort (kle neg (price cs))).map V.int)) kp (Nat.le_succ _) ⟨hlen, out, cc2, vals_RI eo, hD⟩, rfl, fin _ _ st2 (I2.hok.fresh (Nat.le_succ _))⟩
  · refine (ea_cons h ea_nil (st := by simp) (hs := hes)) B G M O σ H _ S fun vs H1 s S1 r1 => ?_
    obtain ⟨v, rfl, ar⟩ := a1 r1
    have hlow := ArgOk.low ar
    rw [ed] at hlow
    obtain ⟨q, us, rfl, hq, l, hz, n⟩ := den_lst hlow
    have eu := l.ints
    subst eu
    rw [List.length_map] at hz
    obtain ⟨cv, hcv, dcv⟩ := S1.val i _ hi
    obtain ⟨ct, cvs, rfl, e1, l1, z1, n1⟩ := den_tup dcv
    refine ⟨q, ct, rfl, S1.gd _ _ hT, hq, hz, hcv, ⟨cvs, e1, fun n hn => ?_⟩, fun H2 z st hz' => ?_⟩
    · obtain ⟨k0, ek, _⟩ := at_map (g := eCon) (xs := cs) (hx n hn).1 (hx n hn).2
      obtain ⟨tv, h1, h2⟩ := l1.get (i := n.toNat) (d := eCon k0) (by rw [List.getElem?_map, ek]; rfl)
      obtain ⟨tj, tvs, rfl, e2, l2, _, _⟩ := den_tup h2
      have e3 : tvs = [.int k0.s, .int k0.b, .int k0.p] := DenL.ints (ns := [k0.s, k0.b, k0.p]) l2
      refine ⟨tj, k0.s, k0.b, h1, ?_⟩
      rw [e3] at e2
      unfold price
      rw [ek]
      exact e2
    · have sf : Stp m O H1 H2 := st.of
      have s3 : Stp m O H H2 := by
        have := s.trans (st.of (m := false) (O' := O))
        rwa [Bool.or_false, Bool.or_false] at this
      exact kk _ _ (st_alloc s3 hz') ((S1.stp st.of).new hz') ⟨z, rfl, s3.fresh S1.om (fun a ha => st.d a (S1.mn a ha)) hz', newL hz' (by rw [List.length_map, List.length_mergeSort]; exact hz) (DenL.ofInts _)⟩
end
end N50
/-! text G7 -/
set_option maxHeartbeats 4000000
namespace N50
open PySem PySem.Spec PyProof.Rows L2
/-! ### zip whose pairs are kept by a name -/
/-- a zip object: the tuple that is out, and whether it knows -/
abbrev ZR (h : Heap) (z TI TO : Addr) (f0 : Value) (f1 : Bool) : Prop :=
  h.get? z = some { cls := .type "zip", dict := none, data := .fields #[f0, .bool f1, .bool false, .ref TI, .ref TO], slots := #[] }
def ZFree (prog : Program) (w : World) (z : Addr) (s : Shared) : Prop := ∀ (A : Around) (E : Value → Shared → Prop) (Q : Bool → Shared → Prop), Q true s → wpAny (model prog w) A (Builtin.SmallTypes.ownedTupleIsFree (.ref z)) Q E s
section
variable {prog : Program} {w : World} {A : Around} {E : Value → Shared → Prop} {s : Shared} {z TI TO i1 i2 l1 l2 : Addr} {f0 : Value} {f1 : Bool} {k1 k2 : Nat} {xs ys : Array Value} {x y a b : Value}
theorem zfree_none (hz : ZR s.heap z TI TO .none f1) : ZFree prog w z s := fun A E Q q => by
  unfold Builtin.SmallTypes.ownedTupleIsFree
  exact wpAny_bind (wpAny_field hz rfl (x := .none) rfl (wpAny_pure q))
theorem zfree_dead {T : Addr} (hz : ZR s.heap z TI TO (rawInt T) f1) (hT : s.heap.get? T = none) : ZFree prog w z s := fun A E Q q => by
  unfold Builtin.SmallTypes.ownedTupleIsFree
  refine wpAny_bind (wpAny_field hz rfl (x := rawInt T) rfl ?_)
  show wpAny _ _ (loadIfAlive ((T : Int).toNat) >>= _) _ _ _
  rw [Int.toNat_natCast]
  have al : ∀ {R : Option Obj → Shared → Prop}, R none s → wpAny (model prog w) A (loadIfAlive T) R E s := fun {R} r => by
    have r' : R (s.heap.get? T) s := by rw [hT]; exact r
    exact fun _ _ _ => r'
  exact wpAny_bind (al (wpAny_pure q))
theorem zip_take (D : ZipApart z TI TO i1 i2 l1 l2) (fr : ZFree prog w z s) (hz : ZR s.heap z TI TO f0 f1) (hTI : IsPair s.heap TI (.ref i1) (.ref i2)) (hTO : IsPair s.heap TO a b)
    (p1 : s.heap.IsListIter i1 l1 k1) (p2 : s.heap.IsListIter i2 l2 k2) (q1 : s.heap.IsList l1 xs) (q2 : s.heap.IsList l2 ys) (ex : xs[k1]? = some x) (ey : ys[k2]? = some y) {Q : Value → Shared → Prop}
    (hQ : ∀ g, ZR g z TI TO (rawInt s.heap.objs.size) false → IsPair g TO x y → g.IsListIter i1 l1 (k1 + 1) → g.IsListIter i2 l2 (k2 + 1) → IsPair g s.heap.objs.size x y → g.objs.size = s.heap.objs.size + 1 → (∀ c o, c ≠ z → c ≠ TO → c ≠ i1 → c ≠ i2 → s.heap.get? c = some o → g.get? c = some o) → Q (.ref s.heap.objs.size) { s with heap := g }) :
    wpAny (model prog w) A (Builtin.«zip.__next__» ⟨[.ref z], []⟩) (fun fin s' => ∃ v, fin = .done (.ret v) ∧ Q v s') E s := by
  show wpAny _ _ (field (.ref z) 2 >>= _) _ _ _
  refine wpAny_bind (wpAny_field (x := .bool false) hz rfl rfl ?_)
  show wpAny _ _ (field (.ref z) 3 >>= _) _ _ _
  refine wpAny_bind (wpAny_field (x := .ref TI) hz rfl rfl (wpAny_bind (wpAny_seqItems hTI rfl ?_)))
  show wpAny _ _ (Builtin.SmallTypes.ownedTupleIsFree (.ref z) >>= _) _ _ _
  refine wpAny_bind (fr _ _ _ ?_)
  simp only [if_true]
  refine wpAny_bind (wpAny_rule (wpAny_bind (wpAny_field (x := .ref TO) hz rfl rfl (wpAny_bind (wpAny_setField_rec hz (by simp) fun g1 z1 s1 => ?_)))))
  replace z1 : ZR g1 z TI TO .ellipsis f1 := z1
  refine wpAny_bind ?_
  simp only [List.forIn_cons, List.forIn_nil, List.zipIdx_cons, List.zipIdx_nil]
  refine wpAny_bind (wpAny_bind (wpAny_onRaise ?_))
  show wpAny _ _ (Builtin.SmallTypes.nextOf (.ref i1) >>= _) _ _ _
  have r1 := p1.extBut s1.extBut D.i1z
  have r2 := p2.extBut s1.extBut D.i2z
  refine wpAny_bind (wpAny_nextOf_list_item r1 (q1.extBut s1.extBut D.l1z) ex fun g2 r1' s2 => wpAny_pure ?_)
  have t2 : IsPair g2 TO a b := s2.extBut _ _ D.TOi1 (s1.extBut _ _ D.TOz hTO)
  refine wpAny_bind (wpAny_seqItems t2 rfl (wpAny_bind (wpAny_updateSeq_pair t2 fun g3 t3 s3 => ?_)))
  replace t3 : IsPair g3 TO x b := t3
  refine wpAny_bind (wpAny_letGo (wpAny_pure (wpAny_bind (wpAny_bind (wpAny_onRaise ?_)))))
  show wpAny _ _ (Builtin.SmallTypes.nextOf (.ref i2) >>= _) _ _ _
  have r2' := (r2.extBut s2.extBut D.i12.symm).extBut s3.extBut D.TOi2.symm
  refine wpAny_bind (wpAny_nextOf_list_item r2' (((q2.extBut s1.extBut D.l2z).extBut s2.extBut D.l2i1).extBut s3.extBut D.l2TO) ey fun g4 r2'' s4 => wpAny_pure ?_)
  have t4 : IsPair g4 TO x b := s4.extBut _ _ D.TOi2 t3
  refine wpAny_bind (wpAny_seqItems t4 rfl (wpAny_bind (wpAny_updateSeq_pair t4 fun g5 t5 s5 => ?_)))
  replace t5 : IsPair g5 TO x y := t5
  refine wpAny_bind (wpAny_letGo (wpAny_pure (wpAny_pure (wpAny_bind (wpAny_seqItems t5 rfl (wpAny_bind (wpAny_newTuple ?_)))))))
  have sz : g5.objs.size = s.heap.objs.size := by rw [s5.1, s4.1, s3.1, s2.1, s1.1]
  have z5 : ZR g5 z TI TO .ellipsis f1 := s5.extBut _ _ D.TOz.symm (s4.extBut _ _ D.i2z.symm (s3.extBut _ _ D.TOz.symm (s2.extBut _ _ D.i1z.symm z1)))
  have kk : ∀ c o, c ≠ z → c ≠ TO → c ≠ i1 → c ≠ i2 → s.heap.get? c = some o → g5.get? c = some o := fun c o n1 n2 n3 n4 e =>
    s5.extBut _ _ n2 (s4.extBut _ _ n4 (s3.extBut _ _ n2 (s2.extBut _ _ n3 (s1.extBut _ _ n1 e))))
  have u1 : g5.IsListIter i1 l1 (k1 + 1) := ((r1'.extBut s3.extBut D.TOi1.symm).extBut s4.extBut D.i12).extBut s5.extBut D.TOi1.symm
  have u2 : g5.IsListIter i2 l2 (k2 + 1) := r2''.extBut s5.extBut D.TOi2.symm
  have zl : z < g5.objs.size := Heap.lt_size z5
  show wpAny _ _ (Builtin.SmallTypes.ownedTupleHandOut (.ref z) (.ref g5.objs.size) >>= _) _ _ _
  refine wpAny_bind ?_
  unfold Builtin.SmallTypes.ownedTupleHandOut
  have z6 : ZR (g5.push { cls := .type "tuple", data := .seq #[x, y] }) z TI TO .ellipsis f1 := Heap.get?_push_of_some _ z5
  refine wpAny_bind (wpAny_setField_rec z6 (by simp) fun g7 z7 s7 => ?_)
  replace z7 : ZR g7 z TI TO (rawInt g5.objs.size) f1 := z7
  refine wpAny_setField_rec z7 (by simp) fun g8 z8 s8 => ?_
  replace z8 : ZR g8 z TI TO (rawInt g5.objs.size) false := z8
  have go : ∀ c o, c ≠ z → g5.get? c = some o → g8.get? c = some o := fun c o n e => s8.extBut _ _ n (s7.extBut _ _ n (Heap.get?_push_of_some _ e))
  have tn : IsPair g8 g5.objs.size x y := s8.extBut _ _ (Nat.ne_of_gt zl) (s7.extBut _ _ (Nat.ne_of_gt zl) (Heap.get?_push_size _ rfl))
  have sz8 : g8.objs.size = g5.objs.size + 1 := by rw [s8.1, s7.1, Heap.size_push]
  rw [sz] at z8 tn sz8
  refine wpAny_pure ⟨_, rfl, ?_⟩
  show Q (.ref g5.objs.size) _
  rw [sz]
  exact hQ g8 z8 (go _ _ D.TOz t5) (u1.at fun o e => go _ o D.i1z e) (u2.at fun o e => go _ o D.i2z e) tn sz8 fun c o n1 n2 n3 n4 e => go c o n1 (kk c o n1 n2 n3 n4 e)
theorem zip_over (hh : A.handled = none) (D : ZipApart z TI TO i1 i2 l1 l2) (fr : ZFree prog w z s) (hz : ZR s.heap z TI TO f0 f1) (hTI : IsPair s.heap TI (.ref i1) (.ref i2)) (hTO : IsPair s.heap TO a b)
    (p1 : s.heap.IsListIter i1 l1 k1) (p2 : s.heap.IsListIter i2 l2 k2) (q1 : s.heap.IsList l1 xs) (q2 : s.heap.IsList l2 ys) (en : xs[k1]? = none ∨ ys[k2]? = none) {Q : PySem.Fin → Shared → Prop}
    (hE : ∀ g e, (∀ c o, c ≠ z → c ≠ TO → c ≠ i1 → c ≠ i2 → s.heap.get? c = some o → g.get? c = some o) → (∃ o, g.get? e = some o ∧ o.cls = .type "StopIteration") → E (.ref e) { s with heap := g }) :
    wpAny (model prog w) A (Builtin.«zip.__next__» ⟨[.ref z], []⟩) Q E s := by
  show wpAny _ _ (field (.ref z) 2 >>= _) _ _ _
  refine wpAny_bind (wpAny_field (x := .bool false) hz rfl rfl ?_)
  show wpAny _ _ (field (.ref z) 3 >>= _) _ _ _
  refine wpAny_bind (wpAny_field (x := .ref TI) hz rfl rfl (wpAny_bind (wpAny_seqItems hTI rfl ?_)))
  show wpAny _ _ (Builtin.SmallTypes.ownedTupleIsFree (.ref z) >>= _) _ _ _
  refine wpAny_bind (fr _ _ _ ?_)
  simp only [if_true]
  refine wpAny_bind (wpAny_rule (wpAny_bind (wpAny_field (x := .ref TO) hz rfl rfl (wpAny_bind (wpAny_setField_rec hz (by simp) fun g1 z1 s1 => ?_)))))
  replace z1 : ZR g1 z TI TO .ellipsis f1 := z1
  refine wpAny_bind ?_
  simp only [List.forIn_cons, List.forIn_nil, List.zipIdx_cons, List.zipIdx_nil]
  refine wpAny_bind (wpAny_bind (wpAny_onRaise ?_))
  show wpAny _ _ (Builtin.SmallTypes.nextOf (.ref i1) >>= _) _ _ _
  have r1 := p1.extBut s1.extBut D.i1z
  cases ex : xs[k1]? with
  | none =>
    refine wpAny_bind (wpAny_nextOf_list_end hh r1 (q1.extBut s1.extBut D.l1z) ex fun g2 e s2 he => ?_)
    obtain ⟨oe, ho, hc⟩ := he
    have z2 : ZR g2 z TI TO .ellipsis f1 := s2 _ _ D.i1z.symm z1
    have ne : e ≠ z := fun q => by subst q; rw [z2] at ho; cases ho; simp at hc
    refine wpAny_setField_rec z2 (by simp) fun g3 _ s3 => hE g3 e (fun c o n1 _ n3 _ v => s3.extBut _ _ n1 (s2 _ _ n3 (s1.extBut _ _ n1 v))) ⟨oe, s3.extBut _ _ ne ho, hc⟩
  | some x =>
    have ey : ys[k2]? = none := by rcases en with q | q; rw [ex] at q; cases q; exact q
    refine wpAny_bind (wpAny_nextOf_list_item r1 (q1.extBut s1.extBut D.l1z) ex fun g2 r1' s2 => wpAny_pure ?_)
    have t2 : IsPair g2 TO a b := s2.extBut _ _ D.TOi1 (s1.extBut _ _ D.TOz hTO)
    refine wpAny_bind (wpAny_seqItems t2 rfl (wpAny_bind (wpAny_updateSeq_pair t2 fun g3 t3 s3 => ?_)))
    refine wpAny_bind (wpAny_letGo (wpAny_pure (wpAny_bind (wpAny_bind (wpAny_onRaise ?_)))))
    show wpAny _ _ (Builtin.SmallTypes.nextOf (.ref i2) >>= _) _ _ _
    have r2' := ((p2.extBut s1.extBut D.i2z).extBut s2.extBut D.i12.symm).extBut s3.extBut D.TOi2.symm
    refine wpAny_bind (wpAny_nextOf_list_end hh r2' (((q2.extBut s1.extBut D.l2z).extBut s2.extBut D.l2i1).extBut s3.extBut D.l2TO) ey fun g4 e s4 he => ?_)
    obtain ⟨oe, ho, hc⟩ := he
    have z4 : ZR g4 z TI TO .ellipsis f1 := s4 _ _ D.i2z.symm (s3.extBut _ _ D.TOz.symm (s2.extBut _ _ D.i1z.symm z1))
    have ne : e ≠ z := fun q => by subst q; rw [z4] at ho; cases ho; simp at hc
    refine wpAny_setField_rec z4 (by simp) fun g5 _ s5 => hE g5 e (fun c o n1 n2 n3 n4 v => s5.extBut _ _ n1 (s4 _ _ n4 (s3.extBut _ _ n2 (s2.extBut _ _ n3 (s1.extBut _ _ n1 v))))) ⟨oe, s5.extBut _ _ ne ho, hc⟩
end
end N50
namespace N50
open PySem PySem.Spec PyProof.Rows L2
section
variable {prog : Program} {w : World} {A : Around} {E : Value → Shared → Prop} {s : Shared} {z TI TO i1 i2 l1 l2 : Addr} {f0 : Value} {f1 : Bool} {k1 k2 : Nat} {xs ys : Array Value} {x y a b : Value}
/-- the zip at a turn, whatever it gave out before -/
def ZAny (h : Heap) (z TI TO : Addr) : Prop := ∃ f0 f1, ZR h z TI TO f0 f1 ∧ (f0 = .none ∨ ∃ T : Addr, f0 = rawInt T)
theorem zany_item (D : ZipApart z TI TO i1 i2 l1 l2) (hz : ZAny s.heap z TI TO) (hTI : IsPair s.heap TI (.ref i1) (.ref i2)) (hTO : ∃ a b, IsPair s.heap TO a b)
    (p1 : s.heap.IsListIter i1 l1 k1) (p2 : s.heap.IsListIter i2 l2 k2) (q1 : s.heap.IsList l1 xs) (q2 : s.heap.IsList l2 ys) (ex : xs[k1]? = some x) (ey : ys[k2]? = some y) {Q : Option Value → Shared → Prop}
    (hQ : ∀ g, ZAny g z TI TO → (∃ a b, IsPair g TO a b) → g.IsListIter i1 l1 (k1 + 1) → g.IsListIter i2 l2 (k2 + 1) → IsPair g s.heap.objs.size x y → g.objs.size = s.heap.objs.size + 1 → (∀ c o, c ≠ z → c ≠ TO → c ≠ i1 → c ≠ i2 → s.heap.get? c = some o → g.get? c = some o) → Q (some (.ref s.heap.objs.size)) { s with heap := g }) :
    wpAny (model prog w) A (pyNext (.ref z)) Q E s := by
  obtain ⟨f0, f1, hz, hf⟩ := hz
  obtain ⟨a, b, hTO⟩ := hTO
  have free : ZFree prog w z s → wpAny (model prog w) A (pyNext (.ref z)) Q E s := fun fr => by
    have hT : s.TypeIs (.ref z) "zip" := ⟨_, hz, rfl⟩
    unfold pyNext
    refine wpAny_bind (wpAny_attempt (wpAny_callSpecial?_slot (name := Str.ofString "__next__") hT F.slot_zip_next (wpAny_call_entry F.slot_zip_next hT F.entry_zip_next ?_ (F.args_zip_next_1 _))))
    exact zip_take D fr hz hTI hTO p1 p2 q1 q2 ex ey fun g a1 a2 a3 a4 a5 a6 a7 => wpAny_pure (hQ g ⟨_, _, a1, .inr ⟨_, rfl⟩⟩ ⟨_, _, a2⟩ a3 a4 a5 a6 a7)
  rcases hf with hf | ⟨T, hf⟩
  · subst hf; exact free (zfree_none hz)
  · subst hf
    cases hT : s.heap.get? T with
    | none => exact free (zfree_dead hz hT)
    | some oT => exact wpAny_pyNext_zip_item_held D hz hT hTI p1 p2 q1 q2 ex ey fun g a1 a3 a4 a5 a6 a7 => hQ g ⟨_, _, a1, .inr ⟨_, rfl⟩⟩ ⟨a, b, a7 _ _ D.TOz D.TOi1 D.TOi2 hTO⟩ a3 a4 a5 a6 fun c o n1 _ n3 n4 e => a7 c o n1 n3 n4 e
theorem zany_end (hh : A.handled = none) (D : ZipApart z TI TO i1 i2 l1 l2) (hz : ZAny s.heap z TI TO) (hTI : IsPair s.heap TI (.ref i1) (.ref i2)) (hTO : ∃ a b, IsPair s.heap TO a b)
    (p1 : s.heap.IsListIter i1 l1 k1) (p2 : s.heap.IsListIter i2 l2 k2) (q1 : s.heap.IsList l1 xs) (q2 : s.heap.IsList l2 ys) (en : xs[k1]? = none ∨ ys[k2]? = none) {Q : Option Value → Shared → Prop}
    (hQ : ∀ g, (∀ c o, c ≠ z → c ≠ TO → c ≠ i1 → c ≠ i2 → s.heap.get? c = some o → g.get? c = some o) → Q none { s with heap := g }) : wpAny (model prog w) A (pyNext (.ref z)) Q E s := by
  obtain ⟨f0, f1, hz, hf⟩ := hz
  obtain ⟨a, b, hTO⟩ := hTO
  have free : ZFree prog w z s → wpAny (model prog w) A (pyNext (.ref z)) Q E s := fun fr => by
    have hT : s.TypeIs (.ref z) "zip" := ⟨_, hz, rfl⟩
    unfold pyNext
    refine wpAny_bind (wpAny_attempt (wpAny_callSpecial?_slot (name := Str.ofString "__next__") hT F.slot_zip_next (wpAny_call_entry F.slot_zip_next hT F.entry_zip_next ?_ (F.args_zip_next_1 _))))
    refine zip_over (A := A.in1) (show A.in1.handled = none from hh) D fr hz hTI hTO p1 p2 q1 q2 en fun g e hk he => ?_
    obtain ⟨o, ho, hc⟩ := he
    exact wpAny_bind (wpAny_isInstance (T := "StopIteration") (b := true) ⟨o, ho, hc⟩ isSubtype_stop (wpAny_pure (hQ _ hk)))
  rcases hf with hf | ⟨T, hf⟩
  · subst hf; exact free (zfree_none hz)
  · subst hf
    cases hT : s.heap.get? T with
    | none => exact free (zfree_dead hz hT)
    | some oT => exact wpAny_pyNext_zip_end_held hh D hz hT hTI p1 p2 q1 q2 en fun g hk => hQ g fun c o n1 _ n3 n4 e => hk c o n1 n3 n4 e
end
theorem turn_zipN {P : Program} {w : World} {K : PySem.W.Frag} {nm : Str} {tpos : Pos} {a b z TI TO i1 i2 : Addr} (D : ZipApart z TI TO i1 i2 a b) :
    Turn P w K (.Name nm tpos) (Itz K a b) [z, TI, TO, i1, i2] z (fun i h => ZAny h z TI TO ∧ IsPair h TI (.ref i1) (.ref i2) ∧ (∃ x y, IsPair h TO x y) ∧ h.IsListIter i1 a i ∧ h.IsListIter i2 b i) where
  mem := by simp
  obj := fun i h st c hc => by
    obtain ⟨⟨f0, f1, hz, _⟩, g1, ⟨x, y, g2⟩, ⟨o1, e1, _, d1⟩, ⟨o2, e2, _, d2⟩⟩ := st
    simp only [List.mem_cons, List.not_mem_nil, or_false] at hc
    rcases hc with rfl | rfl | rfl | rfl | rfl
    · exact ⟨_, hz, fun v q => nomatch q⟩
    · exact ⟨_, g1, fun v q => nomatch q⟩
    · exact ⟨_, g2, fun v q => nomatch q⟩
    · exact ⟨o1, e1, fun v q => by rw [d1] at q; cases q⟩
    · exact ⟨o2, e2, fun v q => by rw [d2] at q; cases q⟩
  keep := fun i h h' st k => by
    obtain ⟨⟨f0, f1, hz, hf⟩, g1, ⟨x, y, g2⟩, p1, p2⟩ := st
    exact ⟨⟨f0, f1, k z (by simp) _ hz, hf⟩, k TI (by simp) _ g1, ⟨x, y, k TO (by simp) _ g2⟩, p1.at fun o q => k i1 (by simp) o q, p2.at fun o q => k i2 (by simp) o q⟩
  item := by
    intro X hP hw hK hc i pins s σ H E I hf st hg
    subst hP hw hK
    obtain ⟨hz, g1, g2, p1, p2⟩ := st
    obtain ⟨xs, ys, x, y, hqx, hqy, hx, hy⟩ := hg
    obtain ⟨its, rv, q1, _⟩ := I.list hqx
    obtain ⟨its2, rv2, q2, _⟩ := I.list hqy
    obtain ⟨u, hu, ru⟩ := rv.get hx
    obtain ⟨u2, hu2, ru2⟩ := rv2.get hy
    refine zany_item D hz g1 g2 p1 p2 q1.isList q2.isList (x := u) (y := u2) (by simpa using hu) (by simpa using hu2) fun g z' TO' p1' p2' hT hsz hk => ?_
    have new : ObjOk X.prog X.w (upd H s.heap.objs.size (.tup [x, y])) g s.heap.objs.size (.tup [x, y]) :=
      ⟨by show 2 ≤ sizeLine; decide, [u, u2], .cons ru (.cons ru2 .nil), ⟨_, hT, rfl, _, rfl⟩⟩
    have I1 : Inv X pins σ (upd H s.heap.objs.size (.tup [x, y])) { s with heap := g } :=
      I.turnedNew (t' := s.toks) (ch := [z, TI, TO, i1, i2]) (fun c o hb q => hk c o (fun e => hb (by simp [e])) (fun e => hb (by simp [e])) (fun e => hb (by simp [e])) (fun e => hb (by simp [e])) q) hf (Nat.le_refl _) new
    refine ⟨_, rfl, ?_⟩
    have pureGo : letOwnedTupleGo (.Name nm tpos) (.ref z) (.ref s.heap.objs.size) = pure () := rfl
    rw [pureGo]
    refine wpAny_pure ⟨.ref s.heap.objs.size, _, I1, rfl, ⟨_, x, y, rfl, I.hok.fresh (Nat.le_refl _), rfl, fun l hl => by rw [I.list_inj hl hqx]; exact hx, fun l hl => by rw [I.list_inj hl hqy]; exact hy⟩, ⟨z', hk _ _ D.TIz D.TITO D.TIi1 D.TIi2 g1, TO', p1', p2'⟩, fun c hcm => ?_⟩
    have hlt : c < s.heap.objs.size := by
      obtain ⟨f0, f1, hz, _⟩ := hz
      obtain ⟨x, y, g2⟩ := g2
      simp only [List.mem_cons, List.not_mem_nil, or_false] at hcm
      rcases hcm with rfl | rfl | rfl | rfl | rfl
      · exact Heap.lt_size hz
      · exact Heap.lt_size g1
      · exact Heap.lt_size g2
      · obtain ⟨_, e1, _⟩ := p1; exact Heap.lt_size e1
      · obtain ⟨_, e2, _⟩ := p2; exact Heap.lt_size e2
    rw [upd_ne (Nat.ne_of_lt hlt)]
    exact (hf c hcm).1
  done := by
    intro X hP hw hK hc i pins s σ H E I hf st hg
    subst hP hw hK
    obtain ⟨hz, g1, g2, p1, p2⟩ := st
    obtain ⟨xs, ys, hqx, hqy, hend⟩ := hg
    obtain ⟨its, rv, q1, _⟩ := I.list hqx
    obtain ⟨its2, rv2, q2, _⟩ := I.list hqy
    have n1 := rv.length
    have n2 := rv2.length
    have he : its.toArray[i]? = none ∨ its2.toArray[i]? = none := by
      rcases hend with q | q
      · exact .inl (by simp; omega)
      · exact .inr (by simp; omega)
    exact zany_end (I.ok.hd hc) D hz g1 g2 p1 p2 q1.isList q2.isList he fun g hk => ⟨rfl, I.turnedL (t' := s.toks) (ch := [z, TI, TO, i1, i2]) (fun c o hb q => hk c o (fun e => hb (by simp [e])) (fun e => hb (by simp [e])) (fun e => hb (by simp [e])) (fun e => hb (by simp [e])) q) hf⟩
  self := fun A i s Q E st h => by
    obtain ⟨⟨f0, f1, hz, _⟩, _⟩ := st
    have hT : s.TypeIs (.ref z) "zip" := ⟨_, hz, rfl⟩
    refine wpAny_pyIter_slot hT F.slot_zip_iter (wpAny_call_entry F.slot_zip_iter hT F.entry_zip_iter ?_ (F.args_zip_iter_1 _))
    show wpAny _ _ (ret (.ref z)) _ _ s
    exact wpAny_pure ⟨_, rfl, "zip", _, hT, F.slot_zip_next.lookup, h⟩
def iZipN (K : PySem.W.Frag) (ta : TA) : TI := fun σ H R => ta σ H fun vs H1 => ∃ a b xs ys, vs = [.ref a, .ref b] ∧ SqL K H1 a xs ∧ SqL K H1 b ys ∧ R (Itz K a b) H1
theorem pi_zipN {X : Cx} {e e2 : Expr} {ta : TA} {p pos tpos : Pos} {nm : Str} (hg : Gl X "zip") (hm : X.mg "zip" = none) (ha : PA X [e, e2] ta)
    (hs : starEach [e, e2] X.env = (false, eval e X.env) :: starEach [e2] X.env := by rfl) (hpl : (backTo pos (starEach [e2] X.env)).any (·.1) = false := by rfl) :
    PI X (.Name nm tpos) (.Call (.Name "zip" p) [e, e2] [] pos) (iZipN X.K ta) := by
  refine ⟨fun pins s σ H R I h => ?_⟩
  refine Call_ (ld_blt I hg hm PyProof.Rows.boot_zip (PyProof.Rows.callWith_type1 (thn (ha.run pos pins s σ H _ I h) fun us s1 ⟨vs, H1, I1, r1, q1⟩ => ?_) hs hpl))
  obtain ⟨a, b, xs, ys, rfl, hqx, hqy, q⟩ := q1
  cases r1 with
  | cons r rr =>
    cases rr with
    | cons r' rr =>
      cases rr
      cases r
      cases r'
      obtain ⟨its, rv, q1, _⟩ := I1.list hqx
      obtain ⟨its2, rv2, q2, _⟩ := I1.list hqy
      refine call_zip_2 q1.isList q2.isList fun g hz g1 g2 p1 p2 hsz hk => wpAny_pyIter_zip hz ?_
      refine ⟨s1.heap.objs.size + 4, [s1.heap.objs.size + 4, s1.heap.objs.size + 2, s1.heap.objs.size + 3, s1.heap.objs.size, s1.heap.objs.size + 1], _, _, H1, rfl, I1.kept (t' := s1.toks) hk, turn_zipN (PySem.W.ktu_apart s1.heap.objs.size a b q1.lt q2.lt), ⟨⟨_, _, hz, .inl rfl⟩, g1, ⟨_, _, g2⟩, p1, p2⟩, fun c hcm => ?_, q⟩
      have hle : s1.heap.objs.size ≤ c := by
        simp only [List.mem_cons, List.not_mem_nil, or_false] at hcm
        rcases hcm with h | h | h | h | h
        all_goals
          rw [h]
          first | exact Nat.le_refl _ | exact Nat.le_add_right _ _
      exact I1.fpOk hle (I1.hok.fresh hle)
section
variable {X : Cx} {a b : Expr} {ρ ρ1 ρ2 : En} {m1 m2 : Bool} {ra rb : RK} {p pos tpos : Pos} {nm : Str}
/-- zip of two lists that keep, of ints -/
theorem ei_zipN {xs ys : List Int} (ha : Ev X a ρ ra m1 ρ1) (hb : Ev X b ρ1 rb m2 ρ2) (ea : ra.d = .lst (xs.map .int)) (eb : rb.d = .lst (ys.map .int)) (hm : X.mg "zip" = none) (sa : ra.st = true := by rfl) (sb : rb.st = true := by rfl) (hg : Gl X "zip" := by rfl) (he : starEach [a, b] X.env = (false, eval a X.env) :: starEach [b] X.env := by rfl) (he2 : starEach [b] X.env = (false, eval b X.env) :: starEach [] X.env := by rfl) (hpl : (backTo pos (starEach [b] X.env)).any (·.1) = false := by rfl) :
    EvI X (.Name nm tpos) (.Call (.Name "zip" p) [a, b] [] pos) ρ ((xs.zip ys).map fun q => D.tup [.int q.1, .int q.2]) (m1 || m2) ρ2 := fun B G M O σ H R S k =>
  ⟨_, pi_zipN hg hm (pa_cons pe_w (pa_cons pe_w pa_nil he2) he) he hpl, ha B G M O σ H _ S fun v H1 s1 S1 r1 => hb B G M O σ H1 _ S1 fun u H2 s2 S2 r2 => by
    have d1 := (r1.stp s1 s2 (by rw [sa]; rfl) S.om S.mn).den sa S.mn
    have d2 := r2.den sb S1.mn
    rw [ea] at d1
    rw [eb] at d2
    obtain ⟨q1, v1, rfl, e1, l1, z1, n1⟩ := den_lst d1
    obtain ⟨q2, v2, rfl, e2, l2, z2, n2⟩ := den_lst d2
    rw [List.length_map] at z1 z2
    refine ⟨q1, q2, v1, v2, rfl, .inl (.inl e1), .inl (.inl e2), k _ H2 [(.lst (xs.map .int), .ref q1), (.lst (ys.map .int), .ref q2)] (s1.trans s2) S2 (fun x hx => ?_) ?_ fun M2 H3 mn2 hgh => ?_⟩
    · rcases List.mem_cons.mp hx with h | h
      · rw [h]; exact d1
      · rw [List.mem_singleton.mp h]; exact d2
    · rw [List.length_map, List.length_zip]; omega
    · obtain ⟨q1', v1', h1, e1', l1', _, _⟩ := den_lst (hgh (.lst (xs.map .int), .ref q1) (by simp))
      obtain ⟨q2', v2', h2, e2', l2', _, _⟩ := den_lst (hgh (.lst (ys.map .int), .ref q2) (by simp))
      cases h1
      cases h2
      have w1 := l1'.ints
      have w2 := l2'.ints
      subst w1 w2
      refine ⟨fun i d hi => ?_, ⟨_, _, .inl (.inl e1'), .inl (.inl e2'), ?_⟩⟩
      · rw [List.getElem?_map] at hi
        cases hq : (xs.zip ys)[i]? with
        | none => rw [hq] at hi; cases hi
        | some q =>
          rw [hq] at hi
          obtain rfl : d = .tup [.int q.1, .int q.2] := (Option.some.inj hi).symm
          obtain ⟨hx, hy⟩ := List.getElem?_zip_eq_some.mp hq
          refine ⟨⟨_, _, .int q.1, .int q.2, .inl (.inl e1'), .inl (.inl e2'), by rw [List.getElem?_map, hx]; rfl, by rw [List.getElem?_map, hy]; rfl⟩, fun y H4 hyl => ?_⟩
          obtain ⟨T, x', y', rfl, hT, rfl, g1, g2⟩ := hyl
          have ex := (g1 _ (.inl (.inl e1'))).symm
          have ey := (g2 _ (.inl (.inl e2'))).symm
          rw [List.getElem?_map, hx] at ex
          rw [List.getElem?_map, hy] at ey
          obtain rfl : V.int q.1 = x' := (Option.some.inj ex).symm
          obtain rfl : V.int q.2 = y' := (Option.some.inj ey).symm
          exact ⟨Stp.new hT, newT hT mn2 (by show 2 ≤ sizeLine; decide) (.cons (.int _) (.cons (.int _) .nil))⟩
      · rw [List.length_map, List.length_map, List.length_map, List.length_zip]; omega⟩
end
end N50
/-! text W7 -/
set_option maxHeartbeats 4000000
namespace N50
open PySem PySem.Spec PyProof.Rows L2
section
variable {P : Program} {w : World} {K : PySem.W.Frag} {mg : Str → Option Value} {base : Heap}
/-- fn_P, where the code object is known -/
theorem fn_PC {x qual : Str} {st : Stmt} {f : Addr} {fd : FuncData} {N ps : List Str} {k n : Nat} {R : List D → RK → Prop} {c : Addr} (F : Fun K x qual st f fd) (hcd0 : fd.code = .ref c) (Sc : FnScope N ps (defScope st)) (hn : ps.length = n) (hR : ∀ ds r, R ds r → ds.length = n)
    (hbody : ∀ (A : Around) (outer : List Env) (s : Shared) (H : Hp) (E : XK) (ds : List D) (r : RK), Room k (xOf P w K mg base N qual (defScope st) f (.ref c) A outer s H E).A → R ds r →
      SS (xOf P w K mg base N qual (defScope st) f (.ref c) A outer s H E) (defBody st) (PoP r) (rho0 N (ds.map .val))) : FnOk P w K mg base CX0 (k + 1) f fd ps (SpP n R K) := by
  obtain ⟨oc, od, kV, doc, pm, an, cdv, ct, osl, rfl, lk, hcd⟩ := F.ex
  have e : cdv = .ref c := hcd0
  subst e
  refine fn_of lk hcd Sc (fun vs H Q E h => by rw [h.1, hn]) fun A outer s H vs Q E hr h => ?_
  obtain ⟨hv, gd, M, ds, r, mn, l, hRr, hst, q⟩ := h
  refine ⟨_, pss_w.nox, ?_⟩
  refine hbody A outer s H E ds r hr hRr ⟨H, M, fun _ => False⟩ [] M (fun _ => False) _ H _ (startSim gd mn l) ⟨fun ρ M' O' σ' H' h S => ?_, fun r' ρ M' O' σ' H' v h S hv => ?_, fun ρ M' O' σ' H' h S => h.elim, fun ρ M' O' σ' H' h S => h.elim⟩
  · have hx : Stp false M H H' := ⟨fun a o _ nt e => S.ext.k a o (fun _ z => z) nt e, S.ext.d, S.ext.t⟩
    have hr' : r = .v .non := h
    subst hr'
    exact q .non H' hx .non
  · have hr' : r' = r := h
    subst hr'
    exact q v H' ⟨fun a o _ nt e => S.ext.k a o (fun _ z => z) nt e, S.ext.d, S.ext.t⟩ hv
end
abbrev s_traded : Stmt := topS 8
theorem sc_traded : FnScope ["contracts", "choice", "offered", "_", "room", "cost", "buys", "sells", "pairs", "contract", "pair"] ["contracts", "choice", "offered"] (defScope s_traded) := ⟨rfl, rfl, rfl, by decide +kernel, rfl, by decide +kernel, by decide +kernel⟩
abbrev s_wishes_of : Stmt := topS 4
theorem sc_wishes_of : FnScope ["choice"] ["choice"] (defScope s_wishes_of) := ⟨rfl, rfl, rfl, by decide +kernel, rfl, by decide +kernel, by decide +kernel⟩
abbrev s_chosen_by : Stmt := topS 10
theorem sc_chosen_by : FnScope ["contracts", "choice", "offered", "kind", "buys", "sells", "many", "part", "contract"] ["contracts", "choice", "offered"] (defScope s_chosen_by) := ⟨rfl, rfl, rfl, by decide +kernel, rfl, by decide +kernel, by decide +kernel⟩
def R_traded : List D → RK → Prop := fun ds r => ∃ (cs : List Con) (room cost : Int) (b s : List Int) (o : D) (ys : List Int), ds = [.tup (cs.map eCon), ePl (.trader room cost b s), o] ∧ sq o ys ∧ RowOk cs.length b ∧ RowOk cs.length s ∧ r = .n (eL (traded cs room cost b s ys))
theorem offer_mem {row off : List Int} {x : Int} (h : x ∈ offer row off) : x ∈ row := (List.mem_filter.mp h).1
theorem offer_len (row off : List Int) : (offer row off).length ≤ row.length := List.length_filter_le ..
theorem kle_B (cs : List Con) : kle false (price cs) = leB cs := rfl
theorem kle_S (cs : List Con) : kle true (price cs) = leS cs := rfl
def ePr (q : Int × Int) : D := .tup [.int q.1, .int q.2]
def conAt (cs : List Con) (c : Int) : Con := cs[c.toNat]?.getD ⟨0, 0, 0⟩
theorem conAt_at {cs : List Con} {c : Int} (h0 : 0 ≤ c) (h1 : c < (cs.length : Int)) : atI (cs.map eCon) c = some (eCon (conAt cs c)) ∧ (conAt cs c).p = price cs c := by
  obtain ⟨q, e1, e2⟩ := at_map (g := eCon) h0 h1
  unfold conAt price
  rw [e1]
  exact ⟨e2, rfl⟩
theorem upTo_len {α : Type} (xs : List α) (n : Int) : (upTo xs n).length ≤ xs.length := by unfold upTo; rw [List.length_take]; omega
/-- xs[:n] -/
theorem cut_upTo {α : Type} (f : α → D) (xs : List α) (n : Int) (hz : xs.length ≤ 1000000) : cutD (xs.map f) none (some n) = (upTo xs n).map f := by
  rw [cutD_map]
  congr 1
  unfold upTo
  show List.take (HT.sIx xs.length xs.length (some n) - 0) (List.drop 0 xs) = _
  rw [List.drop_zero, Nat.sub_zero]
  unfold HT.sIx
  dsimp only
  split
  · rfl
  · rw [Nat.min_def]
    split
    · rfl
    · rw [List.take_of_length_le (Nat.le_refl _), List.take_of_length_le (by omega)]
section
variable {P : Program} {w : World} {K : PySem.W.Frag} {mg : Str → Option Value} {base : Heap} {f : Addr} {fd : FuncData}
theorem lamOk_traded (neg : Bool) : True := trivial
theorem ok_traded {c tp : Addr} (F : Fun K "traded" "traded" s_traded f fd) (hcd : fd.code = .ref c) (TB : LamX.TabB base mg c tp) (hT : PySem.W.tabIn K "traded" = some (c, tp)) (T : Bt mg) (Co : Cal P w K mg base 1 "offered_of" (SpP 2 R_offered_of K)) : FnOk P w K mg base CX0 2 f fd ["contracts", "choice", "offered"] (SpP 3 R_traded K) := by
  refine fn_PC F hcd sc_traded rfl (fun ds r h => ?_) fun A outer s H E ds r hr h => ?_
  · obtain ⟨cs, room, cost, b, s, o, ys, rfl, _⟩ := h; rfl
  · obtain ⟨cs, room, cost, b, s, o, ys, rfl, ho, hb, hs, rfl⟩ := h
    have nd := sc_traded.nd
    refine ss_unp (ev_n 1 rfl) rfl (egs_n 3 nd (egs_n 4 nd (egs_n 5 nd (egs_n 6 nd (egs_n 7 nd egs_nil))))) ?_
    refine ss_set 6 nd (ev_sortLam (neg := false) (p6 := ⟨0, 0, 0, 0⟩) (cs := cs) (ns := offer b ys) 0 ⟨rfl, rfl, fun y hy e => by
      rcases List.mem_cons.mp hy with h | h
      · subst h; cases e
      · rw [List.mem_singleton.mp h]; exact .inl rfl, rfl, rfl, rfl, by decide +kernel, rfl, rfl, rfl, fun _ _ _ _ _ _ => rfl⟩ TB hT rfl hr (ev_call Co hr (ea_cons (ev_n 6 rfl) (ea_cons (ev_n 2 rfl) ea_nil)) ⟨_, _, b, ys, rfl, rfl, ho.1, rfl, ho.2, rfl⟩) rfl rfl rfl (fun n hn => hb.2 n (offer_mem hn)) T.sorted) ?_
    refine ss_set 7 nd (ev_sortLam (neg := true) (cs := cs) (ns := offer s ys) 0 ⟨rfl, rfl, fun y hy e => by
      rcases List.mem_cons.mp hy with h | h
      · subst h; cases e
      · rw [List.mem_singleton.mp h]; exact .inl rfl, rfl, rfl, rfl, by decide +kernel, rfl, rfl, rfl, fun _ _ _ _ _ _ => rfl⟩ TB hT rfl hr (ev_call Co hr (ea_cons (ev_n 7 rfl) (ea_cons (ev_n 2 rfl) ea_nil)) ⟨_, _, s, ys, rfl, rfl, ho.1, rfl, ho.2, rfl⟩) rfl rfl rfl (fun n hn => hs.2 n (offer_mem hn)) T.sorted) ?_
    refine ss_set 8 nd (ev_slL (xs := (((offer b ys).mergeSort (leB cs)).zip ((offer s ys).mergeSort (leS cs))).filter (fun q => decide (price cs q.1 + cost < price cs q.2)) |>.map ePr) (u := some room) (ev_lc (xs := ((offer b ys).mergeSort (leB cs)).zip ((offer s ys).mergeSort (leS cs))) (enc := ePr) (fun q => decide (price cs q.1 + cost < price cs q.2)) ePr [("pair", 10)] nd (EvI.pure (ei_zipN (xs := (offer b ys).mergeSort (leB cs)) (ys := (offer s ys).mergeSort (leS cs)) (ev_n 6 rfl) (ev_n 7 rfl) rfl rfl T.zip)) (fun q hq => ⟨_, fun s H C cl fp => (eg_n 10 nd), fun s H C cl fp => (ets_one (et_c (ec_gt (i := price cs q.2) (j := price cs q.1 + cost) (ev_ix (d := .int (price cs q.2)) (ev_ix (d := eCon (conAt cs q.2)) (ev_n 0 rfl) (ev_ix (ev_n 10 rfl) ev_i rfl rfl) rfl ?_) ev_i rfl ?_) (ev_add (ev_ix (d := .int (price cs q.1)) (ev_ix (d := eCon (conAt cs q.1)) (ev_n 0 rfl) (ev_ix (ev_n 10 rfl) ev_i rfl rfl) rfl ?_) ev_i rfl ?_) (ev_n 5 rfl) rfl rfl) rfl rfl))), fun _ => ⟨_, fun s H C cl fp => (ev_n 10 rfl), rfl, rfl⟩⟩)) rfl eo_none (eo_some (ev_n 4 rfl) rfl)) ?_
    · have z := hs.2 _ (offer_mem (List.mem_mergeSort.mp (List.of_mem_zip hq).2))
      exact (conAt_at z.1 z.2).1
    · have z := hs.2 _ (offer_mem (List.mem_mergeSort.mp (List.of_mem_zip hq).2))
      rw [← (conAt_at z.1 z.2).2]; rfl
    · have z := hb.2 _ (offer_mem (List.mem_mergeSort.mp (List.of_mem_zip hq).1))
      exact (conAt_at z.1 z.2).1
    · have z := hb.2 _ (offer_mem (List.mem_mergeSort.mp (List.of_mem_zip hq).1))
      rw [← (conAt_at z.1 z.2).2]; rfl
    · have zl : ((((offer b ys).mergeSort (leB cs)).zip ((offer s ys).mergeSort (leS cs))).filter fun q => decide (price cs q.1 + cost < price cs q.2)).length ≤ 40 := by
        refine Nat.le_trans (List.length_filter_le ..) ?_
        rw [List.length_zip, List.length_mergeSort]
        have := offer_len b ys
        have := hb.1
        omega
      have zc : cutD (((((offer b ys).mergeSort (leB cs)).zip ((offer s ys).mergeSort (leS cs))).filter fun q => decide (price cs q.1 + cost < price cs q.2)).map ePr) none (some room) = (upTo ((((offer b ys).mergeSort (leB cs)).zip ((offer s ys).mergeSort (leS cs))).filter fun q => decide (price cs q.1 + cost < price cs q.2)) room).map ePr := cut_upTo _ _ _ (by omega)
      rw [zc]
      have zu := upTo_len ((((offer b ys).mergeSort (leB cs)).zip ((offer s ys).mergeSort (leS cs))).filter fun q => decide (price cs q.1 + cost < price cs q.2)) room
      have fl : ∀ l : List (Int × Int), (l.flatMap fun q => ([q.1, q.2] : List Int).map D.int) = (l.flatMap fun q => [q.1, q.2]).map D.int := fun l => by rw [List.map_flatMap]
      have ll : ∀ l : List (Int × Int), (l.flatMap fun q => ([q.1, q.2] : List Int).map D.int).length = 2 * l.length := fun l => by
        induction l with
        | nil => rfl
        | cons q l ih => rw [List.flatMap_cons, List.length_append, ih]; simp; omega
      rw [show traded cs room cost b s ys = (upTo ((((offer b ys).mergeSort (leB cs)).zip ((offer s ys).mergeSort (leS cs))).filter fun q => decide (price cs q.1 + cost < price cs q.2)) room).flatMap fun q => [q.1, q.2] from rfl]
      generalize upTo ((((offer b ys).mergeSort (leB cs)).zip ((offer s ys).mergeSort (leS cs))).filter fun q => decide (price cs q.1 + cost < price cs q.2)) room = ps at zu ⊢
      refine ss_ret (ev_lc2 (xs := ps) (enc := ePr) (fun q => [q.1, q.2]) .int .int [("pair", 10), ("contract", 9)] [9] nd (ep_sq (ev_n 8 rfl) rfl) (by rw [ll]; exact szc (by omega)) (fun q hq => ⟨_, fun s H C cl fp => (eg_n 10 nd), fun s H C cl fp => (ei_sq (ev_n 10 rfl) rfl), fun z hz => ⟨_, fun s H C cl fp => (eg_n 9 nd), _, fun s H C cl fp => (ev_n 9 rfl), rfl, rfl⟩⟩)) ⟨_, .inl rfl, ?_⟩
      show RK.n _ = RK.n _
      rw [fl]
end
end N50
/-! text W8 -/
set_option maxHeartbeats 4000000
namespace N50
open PySem PySem.Spec PyProof.Rows L2
def R_wishes : List D → RK → Prop := fun ds r => ∃ (b s : List Int), ((∃ room, ds = [ePl (.maker room b s)]) ∨ ∃ br sr, ds = [ePl (.sides br b sr s)]) ∧ r = .v (.tup [eT b, eT s])
def R_plain : List D → RK → Prop := fun ds r => ∃ (cs : List Con) (c : Pl) (b : D) (ys : List Int), ds = [.tup (cs.map eCon), ePl c, b] ∧ sq b ys ∧ cs.length ≤ 40 ∧ PlOk cs.length c ∧ r = .n (eL (chosenP cs c ys))
theorem offer_le {row off : List Int} {n : Nat} (h : RowOk n row) : (offer row off).length ≤ 40 := Nat.le_trans (offer_len row off) h.1
theorem capGo_len (gs : List (List Int × Int)) : ∀ (row fo : List Int), (capGo gs row fo).length ≤ fo.length + row.length
  | [], fo => by simp [capGo]
  | c :: cs, fo => by
    rw [capGo]
    refine Nat.le_trans (capGo_len gs cs _) ?_
    split
    · rw [List.length_append, List.length_singleton, List.length_cons]; omega
    · rw [List.length_cons]; omega
theorem within_len (row : List Int) (gs : List (List Int × Int)) (off : List Int) : (withinCaps row gs off).length ≤ row.length := by
  unfold withinCaps
  have := capGo_len gs (offer row off) []
  have := offer_len row off
  simp at *; omega
theorem chosenRow_len {n : Nat} : ∀ {rows : List (List Int)} {off : List Int}, (∀ r ∈ rows, RowOk n r) → (chosenRow rows off).length ≤ 40
  | [], off, _ => by simp [chosenRow]
  | r :: rs, off, h => by
    rw [chosenRow]
    split
    · exact (h r List.mem_cons_self).1
    · exact chosenRow_len fun x hx => h x (List.mem_cons_of_mem _ hx)
theorem traded_len {cs : List Con} {room cost : Int} {b s off : List Int} {n : Nat} (h : RowOk n b) : (traded cs room cost b s off).length ≤ 80 := by
  unfold traded
  dsimp only
  have ll : ∀ l : List (Int × Int), (l.flatMap fun q => [q.1, q.2]).length = 2 * l.length := fun l => by
    induction l with
    | nil => rfl
    | cons q l ih => rw [List.flatMap_cons, List.length_append, ih]; simp; omega
  rw [ll]
  have zl : ((((offer b off).mergeSort (leB cs)).zip ((offer s off).mergeSort (leS cs))).filter fun q => decide (price cs q.1 + cost < price cs q.2)).length ≤ 40 := by
    refine Nat.le_trans (List.length_filter_le ..) ?_
    rw [List.length_zip, List.length_mergeSort]
    have := offer_len b off
    have := h.1
    omega
  have := upTo_len ((((offer b off).mergeSort (leB cs)).zip ((offer s off).mergeSort (leS cs))).filter fun q => decide (price cs q.1 + cost < price cs q.2)) room
  omega
theorem chosenP_len {cs : List Con} {c : Pl} {off : List Int} {n : Nat} (h : PlOk n c) : (chosenP cs c off).length ≤ 80 := by
  cases c with
  | maker r b s =>
    show (upTo _ _ ++ upTo _ _).length ≤ 80
    have h1 := offer_le (off := off) h.1
    have h2 := offer_le (off := off) h.2
    have g1 := upTo_len (offer b off) (mn3 r (offer b off).length (offer s off).length)
    have g2 := upTo_len (offer s off) (mn3 r (offer b off).length (offer s off).length)
    rw [List.length_append]; omega
  | sides br b sr s =>
    show (upTo _ _ ++ upTo _ _).length ≤ 80
    have h1 := offer_le (off := off) h.1
    have h2 := offer_le (off := off) h.2
    have g1 := upTo_len (offer b off) br
    have g2 := upTo_len (offer s off) sr
    rw [List.length_append]; omega
  | table rows => exact Nat.le_trans (chosenRow_len h.2) (by decide)
  | trader r k b s => exact traded_len h.1
  | caps b bg s sg =>
    show (withinCaps _ _ _ ++ withinCaps _ _ _).length ≤ 80
    have g1 := within_len b bg off
    have g2 := within_len s sg off
    have := h.1.1
    have := h.2.1.1
    rw [List.length_append]; omega
theorem flat_le {α : Type} {n : Nat} (f : α → List Int) : ∀ (l : List α), (∀ x ∈ l, (f x).length ≤ n) → (l.flatMap f).length ≤ l.length * n
  | [], _ => by simp
  | x :: l, h => by
    rw [List.flatMap_cons, List.length_append, List.length_cons, Nat.succ_mul]
    have := flat_le f l fun y hy => h y (List.mem_cons_of_mem _ hy)
    have := h x List.mem_cons_self
    omega
section
variable {P : Program} {w : World} {K : PySem.W.Frag} {mg : Str → Option Value} {base : Heap} {f : Addr} {fd : FuncData}
theorem ok_wishes_of (F : Fun K "wishes_of" "wishes_of" s_wishes_of f fd) : FnOk P w K mg base CX0 1 f fd ["choice"] (SpP 1 R_wishes K) := by
  refine fn_P F sc_wishes_of rfl (fun ds r h => ?_) fun cdv A outer s H E ds r hr h => ?_
  · obtain ⟨b, s, (⟨room, rfl⟩ | ⟨br, sr, rfl⟩), _⟩ := h <;> rfl
  · obtain ⟨b, s, (⟨room, rfl⟩ | ⟨br, sr, rfl⟩), rfl⟩ := h
    · have nd := sc_wishes_of.nd
      refine ss_when (EvT.is (et_c (ec_eq (ev_ix (ev_n 0 rfl) ev_i rfl rfl) ev_s (.str _ _))) (show _ = false by decide +kernel)) (fun ht => nomatch ht) (fun ht => ?_)
      refine ss_when (EvT.is (et_c (ec_eq (ev_ix (ev_n 0 rfl) ev_i rfl rfl) ev_s (.str _ _))) (show _ = false by decide +kernel)) (fun ht => nomatch ht) (fun ht => ?_)
      refine ss_ret (ev_slT (ev_n 0 rfl) rfl (eo_some (ev_neg ev_i rfl) rfl) eo_none) ⟨_, .inl rfl, rfl⟩
    · have nd := sc_wishes_of.nd
      refine ss_when (EvT.is (et_c (ec_eq (ev_ix (ev_n 0 rfl) ev_i rfl rfl) ev_s (.str _ _))) (show _ = true by decide +kernel)) (fun ht => ?_) (fun ht => nomatch ht)
      refine ss_ret (ev_tup (ea_cons (ev_ix (ev_n 0 rfl) ev_i rfl rfl) (ea_cons (ev_ix (ev_n 0 rfl) ev_i rfl rfl) ea_nil))) ⟨_, .inl rfl, rfl⟩
set_option maxHeartbeats 8000000 in
theorem body_plain {k : Nat} (T : Bt mg) (Cr : Cal P w K mg base 1 "chosen_row" (SpP 2 R_chosen_row K)) (Ct : Cal P w K mg base 2 "traded" (SpP 3 R_traded K)) (Cw : Cal P w K mg base 2 "within_caps" (SpP 3 R_within_caps K)) (Ci : Cal P w K mg base 1 "wishes_of" (SpP 1 R_wishes K)) (Co : Cal P w K mg base 1 "offered_of" (SpP 2 R_offered_of K))
    (cdv : Value) (A : Around) (outer : List Env) (s : Shared) (H : Hp) (E : XK) (hr : Room (k + 2) (xOf P w K mg base ["contracts", "choice", "offered", "kind", "buys", "sells", "many", "part", "contract"] "chosen_by" (defScope s_chosen_by) f cdv A outer s H E).A) {cs : List Con} {c : Pl} {o : D} {ys : List Int} (ho : sq o ys) (hcs : cs.length ≤ 40) (hc : PlOk cs.length c) :
    SS (xOf P w K mg base ["contracts", "choice", "offered", "kind", "buys", "sells", "many", "part", "contract"] "chosen_by" (defScope s_chosen_by) f cdv A outer s H E) (defBody s_chosen_by) (PoP (.n (eL (chosenP cs c ys)))) (rho0 ["contracts", "choice", "offered", "kind", "buys", "sells", "many", "part", "contract"] ([.tup (cs.map eCon), ePl c, o].map .val)) := by
  have nd := sc_chosen_by.nd
  have nt : ∀ x y : Str, decide (x = y) = false → ∀ {X : Cx} {op : CmpOp}, True := fun _ _ _ _ _ => trivial
  cases c with
  | table rows =>
    refine ss_set 3 nd (ev_ix (ev_n 1 rfl) ev_i rfl rfl) ?_
    refine ss_when (EvT.is (et_c (ec_eq (ev_n 3 rfl) ev_s (.str _ _))) (show _ = true by decide +kernel)) (fun ht => ?_) (fun ht => nomatch ht)
    exact ss_ret (ev_call Cr (hr.mono (by omega)) (ea_cons (ev_ix (ev_n 1 rfl) ev_i rfl rfl) (ea_cons (ev_n 2 rfl) ea_nil)) ⟨rows, o, ys, rfl, ho.1, ho.2, rfl⟩) ⟨_, .inl rfl, rfl⟩
  | trader room cost b s =>
    refine ss_set 3 nd (ev_ix (ev_n 1 rfl) ev_i rfl rfl) ?_
    refine ss_when (EvT.is (et_c (ec_eq (ev_n 3 rfl) ev_s (.str _ _))) (show _ = false by decide +kernel)) (fun ht => nomatch ht) (fun ht => ?_)
    refine ss_when (EvT.is (et_c (ec_eq (ev_n 3 rfl) ev_s (.str _ _))) (show _ = true by decide +kernel)) (fun ht => ?_) (fun ht => nomatch ht)
    exact ss_ret (ev_call Ct (hr.mono (by omega)) (ea_cons (ev_n 0 rfl) (ea_cons (ev_n 1 rfl) (ea_cons (ev_n 2 rfl) ea_nil))) ⟨cs, room, cost, b, s, o, ys, rfl, ho, hc.1, hc.2, rfl⟩) ⟨_, .inl rfl, rfl⟩
  | caps b bg s sg =>
    refine ss_set 3 nd (ev_ix (ev_n 1 rfl) ev_i rfl rfl) ?_
    refine ss_when (EvT.is (et_c (ec_eq (ev_n 3 rfl) ev_s (.str _ _))) (show _ = false by decide +kernel)) (fun ht => nomatch ht) (fun ht => ?_)
    refine ss_when (EvT.is (et_c (ec_eq (ev_n 3 rfl) ev_s (.str _ _))) (show _ = false by decide +kernel)) (fun ht => nomatch ht) (fun ht => ?_)
    refine ss_when (EvT.is (et_c (ec_eq (ev_n 3 rfl) ev_s (.str _ _))) (show _ = true by decide +kernel)) (fun ht => ?_) (fun ht => nomatch ht)
    have g1 := within_len b bg ys
    have g2 := within_len s sg ys
    have z1 := hc.1.1
    have z2 := hc.2.1.1
    refine ss_ret (ev_cat (ev_call Cw (hr.mono (by omega)) (ea_cons (ev_ix (ev_n 1 rfl) ev_i rfl rfl) (ea_cons (ev_ix (ev_n 1 rfl) ev_i rfl rfl) (ea_cons (ev_n 2 rfl) ea_nil))) ⟨b, bg, o, ys, rfl, ho.1, ho.2, by omega, rfl⟩) (ev_call Cw (hr.mono (by omega)) (ea_cons (ev_ix (ev_n 1 rfl) ev_i rfl rfl) (ea_cons (ev_ix (ev_n 1 rfl) ev_i rfl rfl) (ea_cons (ev_n 2 rfl) ea_nil))) ⟨s, sg, o, ys, rfl, ho.1, ho.2, by omega, rfl⟩) rfl rfl (by rw [List.length_map, List.length_map]; exact szc (by omega))) ⟨_, .inl rfl, ?_⟩
    show RK.n _ = RK.n (eL (_ ++ _))
    rw [eL, List.map_append]
  | sides br b sr s =>
    refine ss_set 3 nd (ev_ix (ev_n 1 rfl) ev_i rfl rfl) ?_
    refine ss_when (EvT.is (et_c (ec_eq (ev_n 3 rfl) ev_s (.str _ _))) (show _ = false by decide +kernel)) (fun ht => nomatch ht) (fun ht => ?_)
    refine ss_when (EvT.is (et_c (ec_eq (ev_n 3 rfl) ev_s (.str _ _))) (show _ = false by decide +kernel)) (fun ht => nomatch ht) (fun ht => ?_)
    refine ss_when (EvT.is (et_c (ec_eq (ev_n 3 rfl) ev_s (.str _ _))) (show _ = false by decide +kernel)) (fun ht => nomatch ht) (fun ht => ?_)
    refine ss_when (EvT.is (et_c (ec_eq (ev_n 3 rfl) ev_s (.str _ _))) (show _ = false by decide +kernel)) (fun ht => nomatch ht) (fun ht => ?_)
    refine ss_unp (ev_call Ci (hr.mono (by omega)) (ea_cons (ev_n 1 rfl) ea_nil) ⟨b, s, .inr ⟨br, sr, rfl⟩, rfl⟩) rfl (egs_n 4 nd (egs_n 5 nd egs_nil)) ?_
    refine ss_set 4 nd (ev_call Co (hr.mono (by omega)) (ea_cons (ev_n 4 rfl) (ea_cons (ev_n 2 rfl) ea_nil)) ⟨_, _, b, ys, rfl, rfl, ho.1, rfl, ho.2, rfl⟩) ?_
    refine ss_set 5 nd (ev_call Co (hr.mono (by omega)) (ea_cons (ev_n 5 rfl) (ea_cons (ev_n 2 rfl) ea_nil)) ⟨_, _, s, ys, rfl, rfl, ho.1, rfl, ho.2, rfl⟩) ?_
    refine ss_when (EvT.is (et_c (ec_eq (ev_n 3 rfl) ev_s (.str _ _))) (show _ = true by decide +kernel)) (fun ht => ?_) (fun ht => nomatch ht)
    have z1 := offer_le (off := ys) hc.1
    have z2 := offer_le (off := ys) hc.2
    have c1 := cutD_length ((offer b ys).map D.int) none (some br)
    have c2 := cutD_length ((offer s ys).map D.int) none (some sr)
    rw [List.length_map] at c1 c2
    refine ss_ret (ev_cat (ev_slL (ev_n 4 rfl) rfl eo_none (eo_some (ev_ix (ev_n 1 rfl) ev_i rfl rfl) rfl)) (ev_slL (ev_n 5 rfl) rfl eo_none (eo_some (ev_ix (ev_n 1 rfl) ev_i rfl rfl) rfl)) rfl rfl (szc (by omega))) ⟨_, .inl rfl, ?_⟩
    show RK.n (D.lst (cutD _ _ _ ++ cutD _ _ _)) = RK.n (eL (_ ++ _))
    rw [eL, List.map_append, cut_upTo _ _ _ (by omega), cut_upTo _ _ _ (by omega)]
  | maker room b s =>
    refine ss_set 3 nd (ev_ix (ev_n 1 rfl) ev_i rfl rfl) ?_
    refine ss_when (EvT.is (et_c (ec_eq (ev_n 3 rfl) ev_s (.str _ _))) (show _ = false by decide +kernel)) (fun ht => nomatch ht) (fun ht => ?_)
    refine ss_when (EvT.is (et_c (ec_eq (ev_n 3 rfl) ev_s (.str _ _))) (show _ = false by decide +kernel)) (fun ht => nomatch ht) (fun ht => ?_)
    refine ss_when (EvT.is (et_c (ec_eq (ev_n 3 rfl) ev_s (.str _ _))) (show _ = false by decide +kernel)) (fun ht => nomatch ht) (fun ht => ?_)
    refine ss_when (EvT.is (et_c (ec_eq (ev_n 3 rfl) ev_s (.str _ _))) (show _ = false by decide +kernel)) (fun ht => nomatch ht) (fun ht => ?_)
    refine ss_unp (ev_call Ci (hr.mono (by omega)) (ea_cons (ev_n 1 rfl) ea_nil) ⟨b, s, .inl ⟨room, rfl⟩, rfl⟩) rfl (egs_n 4 nd (egs_n 5 nd egs_nil)) ?_
    refine ss_set 4 nd (ev_call Co (hr.mono (by omega)) (ea_cons (ev_n 4 rfl) (ea_cons (ev_n 2 rfl) ea_nil)) ⟨_, _, b, ys, rfl, rfl, ho.1, rfl, ho.2, rfl⟩) ?_
    refine ss_set 5 nd (ev_call Co (hr.mono (by omega)) (ea_cons (ev_n 5 rfl) (ea_cons (ev_n 2 rfl) ea_nil)) ⟨_, _, s, ys, rfl, rfl, ho.1, rfl, ho.2, rfl⟩) ?_
    refine ss_when (EvT.is (et_c (ec_eq (ev_n 3 rfl) ev_s (.str _ _))) (show _ = false by decide +kernel)) (fun ht => nomatch ht) (fun ht => ?_)
    refine ss_set 6 nd (ev_min3 (i := room) (j := ((offer b ys).length : Nat)) (l := ((offer s ys).length : Nat)) (ea_cons (ev_ix (ev_n 1 rfl) ev_i rfl rfl) (ea_cons (ev_len (ev_n 4 rfl) T.len) (ea_cons (ev_len (ev_n 5 rfl) T.len) ea_nil))) rfl (lenM D.int _) (lenM D.int _) T.min) ?_
    have z1 := offer_le (off := ys) hc.1
    have z2 := offer_le (off := ys) hc.2
    have c1 := cutD_length ((offer b ys).map D.int) none (some (min3 room ((offer b ys).length : Nat) ((offer s ys).length : Nat)))
    have c2 := cutD_length ((offer s ys).map D.int) none (some (min3 room ((offer b ys).length : Nat) ((offer s ys).length : Nat)))
    rw [List.length_map] at c1 c2
    refine ss_ret (ev_cat (ev_slL (ev_n 4 rfl) rfl eo_none (eo_some (ev_n 6 rfl) rfl)) (ev_slL (ev_n 5 rfl) rfl eo_none (eo_some (ev_n 6 rfl) rfl)) rfl rfl (szc (by omega))) ⟨_, .inl rfl, ?_⟩
    show RK.n (D.lst (cutD _ _ _ ++ cutD _ _ _)) = RK.n (eL (_ ++ _))
    rw [eL, List.map_append, cut_upTo _ _ _ (by omega), cut_upTo _ _ _ (by omega)]
    rfl
theorem ok_plain (F : Fun K "chosen_by" "chosen_by" s_chosen_by f fd) (T : Bt mg) (Cr : Cal P w K mg base 1 "chosen_row" (SpP 2 R_chosen_row K)) (Ct : Cal P w K mg base 2 "traded" (SpP 3 R_traded K)) (Cw : Cal P w K mg base 2 "within_caps" (SpP 3 R_within_caps K)) (Ci : Cal P w K mg base 1 "wishes_of" (SpP 1 R_wishes K)) (Co : Cal P w K mg base 1 "offered_of" (SpP 2 R_offered_of K)) : FnOk P w K mg base CX0 3 f fd ["contracts", "choice", "offered"] (SpP 3 R_plain K) := by
  refine fn_P F sc_chosen_by rfl (fun ds r h => ?_) fun cdv A outer s H E ds r hr h => ?_
  · obtain ⟨cs, c, o, ys, rfl, _⟩ := h; rfl
  · obtain ⟨cs, c, o, ys, rfl, ho, hcs, hc, rfl⟩ := h
    exact body_plain (k := 0) T Cr Ct Cw Ci Co cdv A outer s H E hr ho hcs hc
theorem ok_chosen_by (F : Fun K "chosen_by" "chosen_by" s_chosen_by f fd) (T : Bt mg) (Cr : Cal P w K mg base 1 "chosen_row" (SpP 2 R_chosen_row K)) (Ct : Cal P w K mg base 2 "traded" (SpP 3 R_traded K)) (Cw : Cal P w K mg base 2 "within_caps" (SpP 3 R_within_caps K)) (Ci : Cal P w K mg base 1 "wishes_of" (SpP 1 R_wishes K)) (Co : Cal P w K mg base 1 "offered_of" (SpP 2 R_offered_of K)) (Cp : Cal P w K mg base 3 "chosen_by" (SpP 3 R_plain K)) : FnOk P w K mg base CX0 5 f fd ["contracts", "choice", "offered"] (SpP 3 R_chosen_by K) := by
  refine fn_P F sc_chosen_by rfl (fun ds r h => ?_) fun cdv A outer s H E ds r hr h => ?_
  · obtain ⟨cs, c, o, ys, rfl, _⟩ := h; rfl
  · obtain ⟨cs, c, o, ys, rfl, ho, hcs, hc, rfl⟩ := h
    cases c with
    | pl c => exact body_plain (k := 2) T Cr Ct Cw Ci Co cdv A outer s H E hr ho hcs hc
    | split ps =>
      have nd := sc_chosen_by.nd
      refine ss_set 3 nd (ev_ix (ev_n 1 rfl) ev_i rfl rfl) ?_
      refine ss_when (EvT.is (et_c (ec_eq (ev_n 3 rfl) ev_s (.str _ _))) (show _ = false by decide +kernel)) (fun ht => nomatch ht) (fun ht => ?_)
      refine ss_when (EvT.is (et_c (ec_eq (ev_n 3 rfl) ev_s (.str _ _))) (show _ = false by decide +kernel)) (fun ht => nomatch ht) (fun ht => ?_)
      refine ss_when (EvT.is (et_c (ec_eq (ev_n 3 rfl) ev_s (.str _ _))) (show _ = false by decide +kernel)) (fun ht => nomatch ht) (fun ht => ?_)
      refine ss_when (EvT.is (et_c (ec_eq (ev_n 3 rfl) ev_s (.str _ _))) (show _ = true by decide +kernel)) (fun ht => ?_) (fun ht => nomatch ht)
      have fl : (ps.flatMap fun p => (chosenP cs p ys).map D.int) = (ps.flatMap fun p => chosenP cs p ys).map D.int := by rw [List.map_flatMap]
      refine ss_ret (ev_lc2 (xs := ps) (enc := ePl) (fun p => chosenP cs p ys) .int .int [("part", 7), ("contract", 8)] [8] nd (ep_sq (ev_ix (ev_n 1 rfl) ev_i rfl rfl) rfl) ?_ (fun p hp => ⟨_, fun s H C cl fp => (eg_n 7 nd), fun s H C cl fp => (ei_sq (ev_call Cp (hr.mono (by decide)) (ea_cons (ev_n 0 rfl) (ea_cons (ev_n 7 rfl) (ea_cons (ev_n 2 rfl) ea_nil))) ⟨cs, p, o, ys, rfl, ho, hcs, hc.2 p hp, rfl⟩) rfl), fun z hz => ⟨_, fun s H C cl fp => (eg_n 8 nd), _, fun s H C cl fp => (ev_n 8 rfl), rfl, rfl⟩⟩)) ⟨_, .inl rfl, ?_⟩
      · have := flat_le (n := 80) (fun p => chosenP cs p ys) ps fun p hp => chosenP_len (hc.2 p hp)
        have := hc.1
        rw [fl, List.length_map]
        exact szc (by omega)
      · show RK.n _ = RK.n _
        rw [fl]; rfl
end
end N50
/-! text G8 -/
set_option maxHeartbeats 4000000
namespace N50
open PySem PySem.Spec PyProof.Rows L2
/-! ### weaker data -/
def Wk (d e : D) : Prop := ∀ (K : PySem.W.Frag) (M : Addr → Prop) (H : Hp) (v : V), Den K M H d v → Den K M H e v
def WkL (d e : List D) : Prop := d.length = e.length ∧ ∀ (K : PySem.W.Frag) (M : Addr → Prop) (H : Hp) (v : List V), DenL K M H d v → DenL K M H e v
theorem Wk.rfl' {d : D} : Wk d d := fun _ _ _ _ h => h
theorem Wk.n {ds : List D} : Wk (.tupN ds) (.tup ds) := fun K M H v h => by
  cases h with
  | tupN n e z l => obtain ⟨o, e, _⟩ := e; exact .tup n (.inr ⟨o, e⟩) z l
theorem WkL.nil : WkL [] [] := ⟨rfl, fun _ _ _ _ h => h⟩
theorem WkL.cons {d e : D} {ds es : List D} (h : Wk d e) (t : WkL ds es) : WkL (d :: ds) (e :: es) := ⟨by simp [t.1], fun K M H v q => by
  cases q with
  | cons a b => exact .cons (h _ _ _ _ a) (t.2 _ _ _ _ b)⟩
theorem Wk.tup {ds es : List D} (h : WkL ds es) : Wk (.tup ds) (.tup es) := fun K M H v q => by
  cases q with
  | tup n e z l => exact .tup n e (h.1 ▸ z) (h.2 _ _ _ _ l)
theorem Wk.lst {ds es : List D} (h : WkL ds es) : Wk (.lst ds) (.lst es) := fun K M H v q => by
  cases q with
  | lst n e z l => exact .lst n e (h.1 ▸ z) (h.2 _ _ _ _ l)
section
variable {X : Cx} {a b c e : Expr} {es rest : List Expr} {body rest' : List Stmt} {ρ ρ1 ρ2 ρ3 : En} {m m1 m2 : Bool} {r ra rb : RK} {d d' : D} {ds : List D} {pos p p2 p3 p4 : Pos} {P : Po} {x : Str}
theorem Ev.wk (h : Ev X e ρ (.v d) m ρ1) (w : Wk d d') : Ev X e ρ (.v d') m ρ1 := fun B G M O σ H Q S k => h B G M O σ H Q S fun v H' s S' r => k v H' s S' (w _ _ _ _ r)
/-- a slot's data weakened -/
theorem ss_wk (i : Nat) (hr : ρ[i]? = some (.val d)) (w : Wk d d') (h : SS X body P (ρ.set i (.val d'))) : SS X body P ρ := fun B G M O σ H Dn S k => by
  obtain ⟨v, e1, e2⟩ := S.val i d hr
  have S' := S.setV (w _ _ _ _ e2) i
  have es : σ.set i (some v) = σ := by
    apply List.ext_getElem?
    intro j
    by_cases hj : j = i
    · subst hj
      rw [List.getElem?_set_self (List.getElem?_eq_some_iff.mp e1).1, e1]
    · rw [List.getElem?_set_ne (Ne.symm hj)]
  rw [es] at S'
  exact h B G M O σ H Dn S' k
/-! ### tuple(xs), of which it is known that it has no dict -/
def rTupN (K : PySem.W.Frag) : List V → Hp → VK → Prop := fun vs H Q => ∃ (p : Addr) (xs : List V), vs = [.ref p] ∧ SqL K H p xs ∧ ∀ q o, H q = none → o.dict = none → Q (.ref q) (upd H q (.frz o (.tup xs)))
theorem cr_tupN : CallR X (.type "tuple") (rTupN X.K) := by
  intro pins s σ H vs us Q I r h
  obtain ⟨p, xs, rfl, hs, q⟩ := h
  rw [Vals.ref1 r]
  obtain ⟨its, rv, pl, hz⟩ := I.list hs
  refine call_tuple_list pl.isList (fun g hk => ?_) (by rw [List.size_toArray, ← rv.length]; exact hz)
  have I1 : Inv X pins σ H { s with heap := g } := I.kept (t' := s.toks) hk
  have ob : ObjOk X.prog X.w (upd H g.objs.size (.frz { cls := .type "tuple", data := .seq its.toArray } (.tup xs))) (g.push { cls := .type "tuple", data := .seq its.toArray }) g.objs.size (.frz { cls := .type "tuple", data := .seq its.toArray } (.tup xs)) :=
    ⟨Heap.get?_push_size _ rfl, hz, its, rv, IsTup.new _ _⟩
  exact ⟨.ref g.objs.size, _, I1.laid (t' := s.toks) (fun b o e => Heap.get?_push_of_some _ e) (Nat.le_refl _) ob, rfl, q _ _ (I1.hok.fresh (Nat.le_refl _)) rfl⟩
theorem ev_tupleN {ns : List Int} (h : Ev X a ρ r m ρ1) (e : r.d = .lst (ns.map .int)) (hm : X.mg "tuple" = none) (hg : Gl X "tuple" := by rfl) (he : starEach [a] X.env = (false, eval a X.env) :: starEach [] X.env := by rfl) :
    Ev X (.Call (.Name "tuple" p) [a] [] pos) ρ (.v (.tupN (ns.map .int))) m ρ1 := by
  have := ev_Ty (pos := pos) (p := p) (res := .v (.tupN (ns.map .int))) cr_tupN hg hm (by decide +kernel) (ea_cons h ea_nil (st := by simp) (hs := he)) (fun M H vs Q mn ar k => by
    obtain ⟨v, rfl, h⟩ := a1 ar
    have hlow := ArgOk.low h
    rw [e] at hlow
    obtain ⟨q, us, rfl, hq, l, hz, n⟩ := den_lst hlow
    have eu := l.ints
    subst eu
    refine ⟨q, _, rfl, .inl (.inl hq), fun z o hz' hd => ?_⟩
    exact k _ _ (Stp.new hz') (.tupN (fun y => mn z y hz') ⟨o, upd_same, hd⟩ hz (DenL.ofInts _))) (he := he) (hpl := rfl)
  rwa [Bool.or_false] at this
/-! ### index -/
theorem first_idx {ns : List Int} {k : Int} (h : k ∈ ns) : ns[ns.idxOf k]? = some k ∧ ∀ j y, j < ns.idxOf k → ns[j]? = some y → y ≠ k := by
  have hl := List.idxOf_lt_length_of_mem h
  refine ⟨by rw [List.getElem?_eq_getElem hl, List.getElem_idxOf hl], fun j y hj e z => ?_⟩
  subst z
  obtain ⟨hjl, e⟩ := List.getElem?_eq_some_iff.mp e
  have := List.not_of_lt_findIdx (p := (· == y)) (xs := ns) (i := j) hj
  simp [e] at this
/-- xs.index(k), a list of ints -/
theorem ev_indexL {ns : List Int} {k : Int} (ha : Ev X a ρ ra m1 ρ1) (h : Ev X b ρ1 rb false ρ1) (ea : ra.d.its = ns.map .int) (eb : rb.d = .int k) (hk : k ∈ ns) (hs : ra.d.seq = true := by rfl) (hnt : ∀ ds, ra.d ≠ .tup ds := by exact fun _ h => nomatch h)
 (hbase : attributeBase a "index" X.env (eval a X.env) = eval a X.env := by rfl) (hfew : ((backTo p2 (starEach [b] X.env)).all (fun x => !x.1) && (backToKw p2 (keywordEach [] X.env)).all (fun x => x.1.isSome)
 && decide ([b].length + ([] : List Keyword).length + (if ([] : List Keyword).isEmpty then 0 else 1) < 30)) = true := by rfl)
 (hline : (p3.endLine == p2.line) = true := by rfl) (he : starEach [b] X.env = (false, eval b X.env) :: starEach [] X.env := by rfl) (hpl : (backTo p2 (starEach [] X.env)).any (·.1) = false := by rfl) :
    Ev X (.Call (.Attribute a "index" p3) [b] [] p2) ρ (.v (.int (ns.idxOf k : Nat))) m1 ρ1 := fun B G M O σ H Q S kk =>
  ⟨_, pe_bm PySem.F.plainAttrs_list PySem.F.slot_list_index PySem.F.type_list_index mt_index pe_w (pa_cons pe_w pa_nil he) hbase hfew hline he hpl, ha B G M O σ H _ S fun v H1 s1 S1 r1 => by
    obtain ⟨q, vs, rfl, hq, l⟩ : ∃ q us, v = .ref q ∧ SqL X.K H1 q us ∧ DenL X.K (fun _ => False) H1 ra.d.its us := by
      rcases den_lt r1.low hs with h | ⟨_, _, _, _, et⟩
      · exact h
      · exact absurd et (hnt _)
    rw [ea] at l
    have eu := l.ints
    subst eu
    refine ⟨.inl ⟨rfl, _, hq⟩, h B G M O σ H1 _ S1 fun u H2 s2 S2 r2 => ?_⟩
    have hu := den_int (eb ▸ r2.low)
    subst hu
    obtain ⟨f1, f2⟩ := first_idx hk
    have s12 : Stp m1 O H H2 := by
      have := s1.trans (s2.of (m := false) (O' := O))
      rwa [Bool.or_false] at this
    have hq2 : SqL X.K H2 q (ns.map V.int) := by
      rcases hq with (hq | ⟨o, hq⟩) | hq
      · exact .inl (.inl (s2.at rfl hq))
      · exact .inl (.inr ⟨o, s2.at rfl hq⟩)
      · exact .inr hq
    refine ⟨q, _, .int k, ns.idxOf k, .int k, rfl, rfl, hq2, rfl, flat_ints ns, by rw [List.getElem?_map, f1]; rfl, by show (k == k) = true; simp, fun j z hj ez => ?_, kk _ H2 s12 S2 (.int _)⟩
    rw [List.getElem?_map] at ez
    cases hy : ns[j]? with
    | none => rw [hy] at ez; cases ez
    | some y =>
      rw [hy] at ez
      cases ez
      have := f2 j y hj hy
      show (y == k) = false
      simpa using this⟩
/-- t.index(k), a tuple of ints that has no dict -/
theorem pe_tix {ta : TE} {tb : TA} {o : Expr} (ho : PE X o ta) (ha : PA X [b] tb)
 (hbase : attributeBase o "index" X.env (eval o X.env) = eval o X.env := by rfl) (hfew : ((backTo p2 (starEach [b] X.env)).all (fun x => !x.1) && (backToKw p2 (keywordEach [] X.env)).all (fun x => x.1.isSome)
 && decide ([b].length + ([] : List Keyword).length + (if ([] : List Keyword).isEmpty then 0 else 1) < 30)) = true := by rfl)
 (hline : (p3.endLine == p2.line) = true := by rfl) (he : starEach [b] X.env = (false, eval b X.env) :: starEach [] X.env := by rfl) (hpl : (backTo p2 (starEach [] X.env)).any (·.1) = false := by rfl) :
    PE X (.Call (.Attribute o "index" p3) [b] [] p2) (fun σ H Q => ta σ H fun v H1 => ∃ (q : Addr) (ob : Obj) (ns : List Int), v = .ref q ∧ H1 q = some (.frz ob (.tup (ns.map V.int))) ∧ ob.dict = none ∧ tb σ H1 fun vs H2 => ∃ k, vs = [.int k] ∧ H2 q = some (.frz ob (.tup (ns.map V.int))) ∧ k ∈ ns ∧ Q (.int (ns.idxOf k : Nat)) H2) := by
  refine ⟨fun pins s σ H Q I h => ?_⟩
  refine wpAny_Call_method_late hbase hfew hline rfl (thn (ho.run pins s σ H _ I h) fun v s1 ⟨x, H1, I1, r1, hx⟩ => ?_)
  obtain ⟨q, ob, ns, rfl, hq, hd, hx⟩ := hx
  obtain rfl : v = .ref q := r1
  obtain ⟨its, rv, pl, hz⟩ := I1.tuple (.inl (.inr ⟨ob, hq⟩))
  have hob : s1.heap.get? q = some ob := (I1.hok q _ hq).1
  refine ⟨"tuple", "tuple.index", PySem.F.plainAttrs_tuple, PySem.F.slot_tuple_index, PySem.F.type_tuple_index, pl.typeIs, fun a e => ?_, ?_⟩
  · cases e; exact ⟨ob, hob, hd⟩
  · have hA := ha.run p2 pins s1 σ H1 _ I1 hx
    rw [he] at hA ⊢
    refine Calls.callWith_builtin (by show (false || (backTo p2 (starEach [] X.env)).any (·.1)) = false; rw [hpl]; rfl) (Calls.evalArgs_plain (thn hA fun us s2 ⟨vs, H2, I2, r2, k, e1, e2, e3, e4⟩ => ?_))
    subst e1
    cases r2 with
    | cons rk rn =>
      cases rn
      obtain ⟨t, rfl⟩ := rk
      obtain ⟨its2, rv2, pl2, hz2⟩ := I2.tuple (.inl (.inr ⟨ob, e2⟩))
      exact PySem.SeqAt.tuple_index_ints (show s2.heap.IsTuple q its2.toArray from pl2) (by simpa using rv2.ints) e3 ⟨.int (ns.idxOf k : Nat), H2, I2.tok _, ⟨_, rfl⟩, e4⟩
theorem ev_indexN {ns : List Int} {k : Int} (ha : Ev X a ρ (.v (.tupN (ns.map .int))) false ρ) (h : Ev X b ρ rb false ρ) (eb : rb.d = .int k) (hk : k ∈ ns)
 (hbase : attributeBase a "index" X.env (eval a X.env) = eval a X.env := by rfl) (hfew : ((backTo p2 (starEach [b] X.env)).all (fun x => !x.1) && (backToKw p2 (keywordEach [] X.env)).all (fun x => x.1.isSome)
 && decide ([b].length + ([] : List Keyword).length + (if ([] : List Keyword).isEmpty then 0 else 1) < 30)) = true := by rfl)
 (hline : (p3.endLine == p2.line) = true := by rfl) (he : starEach [b] X.env = (false, eval b X.env) :: starEach [] X.env := by rfl) (hpl : (backTo p2 (starEach [] X.env)).any (·.1) = false := by rfl) :
    Ev X (.Call (.Attribute a "index" p3) [b] [] p2) ρ (.v (.int (ns.idxOf k : Nat))) false ρ := fun B G M O σ H Q S kk =>
  ⟨_, pe_tix pe_w (pa_cons pe_w pa_nil he) hbase hfew hline he hpl, ha B G M O σ H _ S fun v H1 s1 S1 r1 => by
    have r1' : Den X.K M H1 (.tupN (ns.map .int)) v := r1
    cases r1' with
    | tupN n e z l =>
      obtain ⟨ob, e1, hd⟩ := e
      have eu := l.ints
      subst eu
      refine ⟨_, ob, ns, rfl, e1, hd, h B G M O σ H1 _ S1 fun u H2 s2 S2 r2 => ?_⟩
      have hu := den_int (eb ▸ r2.low)
      subst hu
      exact ⟨k, rfl, s2.at rfl e1, hk, kk _ H2 (s1.trans s2) S2 (.int _)⟩⟩
/-! ### and, of which one part changes the draws -/
theorem ew_andC {c d : Bool} (h1 : EvT X a ρ c m ρ1) (h2 : c = true → EvW X (.BoolOp .And (b :: rest) pos) ρ1 d false ρ1) : EvW X (.BoolOp .And (a :: b :: rest) pos) ρ (c && d) m ρ1 := fun B G M O σ H Q S k =>
  ⟨_, pw_and pt_w pw_w, h1 B G M O σ H _ S fun H' s S' => by
    cases c with
    | true =>
      show wW X _ σ H' Q
      exact h2 rfl B G M O σ H' Q S' fun H2 s2 S2 => k H2 (by have := s.trans (s2.of (m := false) (O' := O)); rwa [Bool.or_false] at this) S2
    | false => exact k H' s S'⟩
theorem ew_andT {d : Bool} (h1 : EvT X a ρ true false ρ) (h2 : EvW X (.BoolOp .And (b :: rest) pos) ρ d m ρ1) : EvW X (.BoolOp .And (a :: b :: rest) pos) ρ d m ρ1 := fun B G M O σ H Q S k =>
  ⟨_, pw_and pt_w pw_w, h1 B G M O σ H _ S fun H' s S' => by
    show wW X _ σ H' Q
    exact h2 B G M O σ H' Q S' fun H2 s2 S2 => k H2 (by have := (s.of (m := false) (O' := O)).trans s2; rwa [Bool.false_or] at this) S2⟩
theorem ew_andF (h1 : EvT X a ρ false m ρ1) : EvW X (.BoolOp .And (a :: b :: rest) pos) ρ false m ρ1 := fun B G M O σ H Q S k =>
  ⟨_, pw_and pt_w pw_w, h1 B G M O σ H _ S fun H' s S' => k H' s S'⟩
/-! ### slices with a step -/
def pickD {α : Type} (xs : List α) (lo hi st : Option Int) : List α :=
  (sliceRange (sliceBounds lo hi st xs.length).1 (sliceBounds lo hi st xs.length).2.1 (sliceBounds lo hi st xs.length).2.2).filterMap fun k => xs[k]?
theorem pick_vals : ∀ (ks : List Nat) {xs : List V} {us : List Value}, Vals xs us → Vals (ks.filterMap fun k => xs[k]?) (ks.filterMap fun k => us[k]?)
  | [], xs, us, h => .nil
  | k :: ks, xs, us, h => by
    have ih := pick_vals ks h
    cases e : xs[k]? with
    | none =>
      have e2 : us[k]? = none := by
        rw [List.getElem?_eq_none_iff] at e ⊢
        rw [← h.length]; exact e
      rw [List.filterMap_cons_none e, List.filterMap_cons_none e2]; exact ih
    | some x =>
      obtain ⟨u, e2, r⟩ := h.get e
      rw [List.filterMap_cons_some e, List.filterMap_cons_some e2]; exact .cons r ih
theorem pick_den {K : PySem.W.Frag} {M : Addr → Prop} {H : Hp} : ∀ (ks : List Nat) {xs : List D} {us : List V}, DenL K M H xs us → DenL K M H (ks.filterMap fun k => xs[k]?) (ks.filterMap fun k => us[k]?)
  | [], xs, us, h => .nil
  | k :: ks, xs, us, h => by
    have ih := pick_den ks h
    cases e : xs[k]? with
    | none =>
      have e2 : us[k]? = none := by
        rw [List.getElem?_eq_none_iff] at e ⊢
        rw [← h.length]; exact e
      rw [List.filterMap_cons_none e, List.filterMap_cons_none e2]; exact ih
    | some x =>
      obtain ⟨u, e2, r⟩ := h.get e
      rw [List.filterMap_cons_some e, List.filterMap_cons_some e2]; exact .cons r ih
theorem pickD_map {α : Type} (f : α → D) (xs : List α) (lo hi st : Option Int) : pickD (xs.map f) lo hi st = (pickD xs lo hi st).map f := by
  unfold pickD
  rw [List.length_map, List.map_filterMap]
  congr 1
  funext k
  rw [List.getElem?_map]
def tSlSt (K : PySem.W.Frag) (te : TE) (tl th ts : TO) : TE := fun σ H Q => te σ H fun x H1 => tl σ H1 fun lo H2 => th σ H2 fun hi H3 => ts σ H3 fun st H4 => ∃ a xs, x = .ref a ∧ SqL K H4 a xs ∧ st ≠ some 0 ∧ (pickD xs lo hi st).length ≤ sizeLine ∧ ∀ p, H4 p = none → Q (.ref p) (upd H4 p (.lst (pickD xs lo hi st)))
theorem pe_slSt {te : TE} {tl th ts : TO} {lo hi st : Option Expr} (he : PE X e te) (hl : PO X lo tl) (hu : PO X hi th) (hs : PO X st ts) (hsub : ∀ o i, subscripted (.Slice lo hi st p3) false o i = operate [o, i] (getItem o i) := by intro _ _; with_unfolding_all rfl) : PE X (.Subscript e (.Slice lo hi st p3) pos) (tSlSt X.K te tl th ts) := by
  refine ⟨fun pins s σ H Q I h => ?_⟩
  refine Subscript_ (thn (he.run pins s σ H _ I h) fun v s1 ⟨x, H1, I1, r1, q1⟩ => ?_)
  refine wpAny_Slice (thn (hl.run pins s1 σ H1 _ I1 q1) fun vl s2 ⟨l, H2, I2, pl, q2⟩ => thn (hu.run pins s2 σ H2 _ I2 q2) fun vu s3 ⟨u, H3, I3, pu, q3⟩ => thn (hs.run pins s3 σ H3 _ I3 q3) fun vs s4 ⟨o, H4, I4, ps, q4⟩ => ?_)
  obtain ⟨a, xs, rfl, hx, h0, hz, q⟩ := q4
  obtain rfl : v = .ref a := r1
  have I5 : Inv X pins σ H4 { s4 with heap := s4.heap.push { cls := .type "slice", data := .fields #[vl, vu, vs] } } := I4.kept (t' := s4.toks) fun b ob q => Heap.get?_push_of_some _ q
  obtain ⟨its, r, ht, hz2⟩ := I5.list hx
  refine tail_any (ops := [.ref a, .ref s4.heap.objs.size]) ht.isList.typeIs (PySem.slot_list_getitem.lookup) ?_ (hsub _ _)
  refine wpAny_getItem_list_slice ht.isList (Heap.IsSliceOf.new _ vl vu vs) pl pu ps h0 ?_ (by rw [List.size_toArray, ← r.length]; exact hz2)
  have e : slicePick its.toArray l u o = (((sliceRange (sliceBounds l u o xs.length).1 (sliceBounds l u o xs.length).2.1 (sliceBounds l u o xs.length).2.2).filterMap fun k => its[k]?)).toArray := by
    unfold slicePick
    rw [List.size_toArray, ← r.length]
    congr 1
    exact congrArg (fun f => List.filterMap f _) (funext fun k => by simp)
  rw [e]
  exact ⟨.ref _, _, I5.laid (t' := s4.toks) (o := .lst (pickD xs l u o)) (fun b ob q => Heap.get?_push_of_some _ q) (Nat.le_refl _) ⟨hz, _, 0, pick_vals _ r, Heap.get?_push_size _ rfl⟩, rfl, q _ (I5.hok.fresh (Nat.le_refl _))⟩
theorem ev_slSt {xs : List D} {lo hi st : Option Expr} {l u o : Option Int} {m3 m4 : Bool} {ρ4 : En} (ha : Ev X a ρ r m1 ρ1) (ea : r.d = .lst xs) (hl : EvO X lo ρ1 l m2 ρ2) (hu : EvO X hi ρ2 u m3 ρ3) (ho : EvO X st ρ3 o m4 ρ4) (h0 : o ≠ some 0) (hz : (pickD xs l u o).length ≤ sizeLine) (sr : r.st = true := by rfl) (hsub : ∀ o i, subscripted (.Slice lo hi st p3) false o i = operate [o, i] (getItem o i) := by intro _ _; with_unfolding_all rfl) :
    Ev X (.Subscript a (.Slice lo hi st p3) pos) ρ (.n (.lst (pickD xs l u o))) (m1 || m2 || m3 || m4) ρ4 := fun B G M O σ H Q S k =>
  ⟨_, pe_slSt pe_w po_w po_w po_w hsub, ha B G M O σ H _ S fun v H1 s1 S1 r1 => hl B G M O σ H1 _ S1 fun H2 s2 S2 => hu B G M O σ H2 _ S2 fun H3 s3 S3 => ho B G M O σ H3 _ S3 fun H4 s4 S4 => by
    have st4 := ((s1.trans s2).trans s3).trans s4
    have d1 := (((r1.stp s1 s2 (by rw [sr]; rfl) S.om S.mn).stp (s1.trans s2) s3 (by rw [sr]; rfl) S.om S.mn).stp ((s1.trans s2).trans s3) s4 (by rw [sr]; rfl) S.om S.mn).den sr S.mn
    rw [ea] at d1
    obtain ⟨q, vs, rfl, hq, l1, z1, n1⟩ := den_lst d1
    have el : pickD vs l u o = (sliceRange (sliceBounds l u o xs.length).1 (sliceBounds l u o xs.length).2.1 (sliceBounds l u o xs.length).2.2).filterMap fun k => vs[k]? := by
      unfold pickD; rw [l1.length]
    have ld : DenL X.K M H4 (pickD xs l u o) (pickD vs l u o) := by rw [el]; exact pick_den _ l1
    refine ⟨q, vs, rfl, .inl (.inl hq), h0, by rw [← ld.length]; exact hz, fun p hp => ?_⟩
    exact k _ _ (st_alloc st4 hp) (S4.new hp) ⟨p, rfl, st4.fresh S.om S4.mn hp, newL hp hz ld⟩⟩
/-! ### text * (0 or 1) -/
theorem op_smul : OpR X (binaryOp .Mult) (fun x y H Q => ∃ z n, x = .str z ∧ y = .int n ∧ (n = 0 ∨ n = 1) ∧ Q (.str (if n = 0 then Str.empty else z)) H) := by
  intro pins s σ H x y v u Q I rx ry h
  obtain ⟨z, n, rfl, rfl, hn, q⟩ := h
  obtain ⟨t, rfl⟩ := rx
  obtain ⟨t2, rfl⟩ := ry
  rcases hn with rfl | rfl
  · exact P.mul_str_none (by decide) (by decide) ⟨.str Str.empty, H, I.tok _, ⟨_, rfl⟩, q⟩
  · refine P.mul_str (by decide) (fun _ h => nomatch h) (fun _ h => nomatch h) ?_
    rw [if_neg (by decide), if_pos (by rfl)]
    exact ⟨.str z, H, I, ⟨_, rfl⟩, q⟩
theorem ev_smul {z : Str} {n : Int} (ha : Ev X a ρ ra m1 ρ1) (hb : Ev X b ρ1 rb m2 ρ2) (ea : ra.d = .str z) (eb : rb.d = .int n) (hn : n = 0 ∨ n = 1) (st : (ra.st || !m2) = true := by rfl) : Ev X (.BinOp a .Mult b pos) ρ (.v (.str (if n = 0 then Str.empty else z))) (m1 || m2) ρ2 := fun B G M O σ H Q S k =>
  ⟨_, pe_op op_smul pe_w pe_w, two ha hb st S fun x y H2 s S2 r1 r2 => ⟨z, n, den_str (ea ▸ r1.low), den_int (eb ▸ r2), hn, k _ H2 s S2 (.str _)⟩⟩
end
end N50
/-! text G9 -/
set_option maxHeartbeats 4000000
namespace N50
open PySem PySem.Spec PyProof.Rows L2 PySem.W
/-! ### sorted(xs), any data -/
def encB (b : V × D) : PyData := b.2.pd
def rSortedD (K : PySem.W.Frag) : List V → Hp → VK → Prop := fun vs H Q => ∃ (a : Addr) (bs : List (V × D)), vs = [V.ref a] ∧ SqL K H a (bs.map (·.1)) ∧ (∀ b ∈ bs, Dp K H b.1 b.2.pd) ∧ AllAlike (bs.map encB) ∧ Sortable (bs.map encB) ∧ (∀ b ∈ bs, b.2.pd.depth ≤ 50) ∧
  ∀ p, H p = none → Q (.ref p) (upd H p (.lst ((bs.mergeSort (dataLe false encB)).map (·.1))))
theorem each_B : ∀ {bs : List (V × D)} {us : List Value}, Vals (bs.map (·.1)) us → EachIs (fun v (b : V × D) => RelV b.1 v) us bs
  | [], _, .nil => .nil
  | _ :: _, _, .cons r t => .cons r (each_B t)
theorem vals_B : ∀ {bs : List (V × D)} {us : List Value}, EachIs (fun v (b : V × D) => RelV b.1 v) us bs → Vals (bs.map (·.1)) us
  | [], _, .nil => .nil
  | _ :: _, _, .cons r t => .cons r (vals_B t)
theorem each_and {α β : Type} {R S : α → β → Prop} : ∀ {as : List α} {bs : List β}, EachIs R as bs → (∀ a b, b ∈ bs → R a b → S a b) → EachIs S as bs
  | _, _, .nil, _ => .nil
  | _, _, .cons h t, k => .cons (k _ _ List.mem_cons_self h) (each_and t fun a b hb => k a b (List.mem_cons_of_mem _ hb))
theorem cr_sortedD {X : Cx} (hu : X.A.units + 64 < cLine) : CallR X (.builtin "sorted") (rSortedD X.K) := by
  intro pins s σ H vs us Q I r h
  obtain ⟨a, bs, rfl, hs, hd, hal, hk, hdep, q⟩ := h
  obtain ⟨its, rv, pl, hz⟩ := I.list hs
  rw [Vals.ref1 r]
  rw [List.length_map] at hz
  refine sorted_data (enc := encB) (R := fun v (b : V × D) => RelV b.1 v) (bs := bs) pl.isList (each_B rv) (each_and (each_B rv) fun v b hb rb => Dp.reads I _ _ _ (hd b hb) rb) hal hk hz (fun b hb => ?_) fun out h1 h2 => ?_
  · have := hdep b hb
    show _ + 2 + b.2.pd.depth < cLine
    omega
  · obtain ⟨ep, he'⟩ := PyProof.Rows.sortedAll_at s.heap its out.toArray
    have hlen : ((bs.mergeSort (dataLe false encB)).map (·.1)).length ≤ sizeLine := by rw [List.length_map, List.length_mergeSort]; exact hz
    exact ⟨.ref _, _, I.laid (t' := s.toks) (o := .lst ((bs.mergeSort (dataLe false encB)).map (·.1))) (fun _ _ => PyProof.Rows.sortedAll_old) (Nat.le_succ _) ⟨hlen, out, ep, vals_B h2, he'⟩, rfl, q _ (I.hok.fresh (Nat.le_succ _))⟩
theorem denL_zip {K : PySem.W.Frag} {M : Addr → Prop} {H : Hp} : ∀ {bs : List (V × D)}, (∀ b ∈ bs, Den K M H b.2 b.1) → DenL K M H (bs.map (·.2)) (bs.map (·.1))
  | [], _ => .nil
  | b :: bs, h => .cons (h b List.mem_cons_self) (denL_zip fun x hx => h x (List.mem_cons_of_mem _ hx))
theorem denL_each {K : PySem.W.Frag} {M : Addr → Prop} {H : Hp} : ∀ {ds : List D} {vs : List V}, DenL K M H ds vs → ∀ b ∈ vs.zip ds, Den K M H b.2 b.1
  | _, _, .nil, b, hb => by simp at hb
  | _, _, .cons h t, b, hb => by
    rcases List.mem_cons.mp hb with hb | hb
    · rw [hb]; exact h
    · exact denL_each t b hb
section
variable {X : Cx} {a tg iter elt : Expr} {ρ ρ0 ρ1 : En} {m : Bool} {r : RK} {pos p : Pos} {js vs : List Nat}
theorem ev_sortedD {ds : List D} (hu : X.A.units + 64 < cLine) (h : Ev X a ρ r m ρ1) (e : r.d = .lst ds) (hal : AllAlike (ds.map D.pd)) (hk : Sortable (ds.map D.pd)) (sh : ∀ d ∈ ds, d.sh 40 = true) (hm : X.mg "sorted" = none) (hg : Gl X "sorted" := by rfl) (he : starEach [a] X.env = (false, eval a X.env) :: starEach [] X.env := by rfl) (hst : r.st = true := by rfl) :
    Ev X (.Call (.Name "sorted" p) [a] [] pos) ρ (.n (.lst (ds.mergeSort (dataLe false D.pd)))) m ρ1 := by
  have := ev_B (pos := pos) (p := p) (res := .n (.lst (ds.mergeSort (dataLe false D.pd)))) (cr_sortedD hu) hg hm (by decide +kernel) (ea_cons h ea_nil (st := by simp) (hs := he)) (fun M H vs Q mn ar k => by
    obtain ⟨v, rfl, h⟩ := a1 ar
    have hd := h.den hst
    rw [e] at hd
    obtain ⟨q, us, rfl, hq, l, hz, n⟩ := den_lst hd
    have hl := l.length
    have e1 : (us.zip ds).map (·.1) = us := by rw [List.map_fst_zip]; omega
    have e2 : (us.zip ds).map (·.2) = ds := by rw [List.map_snd_zip]; omega
    have e3 : (us.zip ds).map encB = ds.map D.pd := by
      rw [show encB = D.pd ∘ (·.2) from rfl, ← List.map_map, e2]
    have hb := denL_each l
    refine ⟨q, us.zip ds, rfl, by rw [e1]; exact .inl (.inl hq), fun b hb' => (hb b hb').dp (sh _ (List.of_mem_zip hb').2), by rw [e3]; exact hal, by rw [e3]; exact hk, fun b hb' => ?_, fun z hz' => ?_⟩
    · have := (D.sh_lay (sh _ (List.of_mem_zip hb').2)).2
      omega
    · have ls : DenL X.K M H (ds.mergeSort (dataLe false D.pd)) (((us.zip ds).mergeSort (dataLe false encB)).map (·.1)) := by
        have e4 : ((us.zip ds).mergeSort (dataLe false encB)).map (·.2) = ds.mergeSort (dataLe false D.pd) := by
          have := List.map_mergeSort (l := us.zip ds) (r := dataLe false encB) (f := fun b : V × D => b.2) (s := dataLe false D.pd) (fun a _ b _ => rfl)
          rw [this, e2]
        rw [← e4]
        exact denL_zip fun b hb' => hb b (List.mem_mergeSort.mp hb')
      exact k _ _ (Stp.new hz') ⟨z, rfl, hz', newL hz' (by rw [List.length_mergeSort]; exact hz) ls⟩) (he := he) (hpl := rfl)
  rwa [Bool.or_false] at this
/-! ### a comprehension whose element takes draws -/
def runS {α T : Type} (f : T → α → T) (y : T → α → D) : T → List α → List D
  | _, [] => []
  | s, x :: xs => y s x :: runS f y (f s x) xs
theorem runS_snoc {α T : Type} (f : T → α → T) (y : T → α → D) : ∀ (xs : List α) (s : T) (x : α), runS f y s (xs ++ [x]) = runS f y s xs ++ [y (xs.foldl f s) x]
  | [], s, x => rfl
  | z :: xs, s, x => by rw [List.cons_append, runS, runS_snoc f y xs, runS]; rfl
theorem runS_len {α T : Type} (f : T → α → T) (y : T → α → D) : ∀ (xs : List α) (s : T), (runS f y s xs).length = xs.length
  | [], s => rfl
  | z :: xs, s => by rw [runS, List.length_cons, List.length_cons, runS_len f y xs]
theorem Sim.unwipe {K : PySem.W.Frag} {B : Base} {G : List (D × V)} {M O : Addr → Prop} {H : Hp} {σ : L2.St} {ρ : En} {vs : List Nat} (S : Sim K B G M O H (L2.wipe σ vs) ρ) (h : ∀ j ∈ vs, ∀ s, ρ[j]? = some s → s = .no) : Sim K B G M O H σ ρ := by
  have out : ∀ {j : Nat} {s : Sl}, ρ[j]? = some s → s ≠ .no → (L2.wipe σ vs)[j]? = σ[j]? := fun {j s} e n => wipe_out fun z => n (h j z s e)
  refine ⟨by rw [← S.len, wipe_length], S.ext, S.gd, S.m0, S.om, S.mn, S.on, S.gh, fun j d e => ?_, fun j b d e => ?_, fun i j b c d e p h1 h2 h3 h4 => ?_, S.bo⟩
  · obtain ⟨v, e1, e2⟩ := S.val j d e
    rw [out e (fun z => nomatch z)] at e1
    exact ⟨v, e1, e2⟩
  · obtain ⟨q, e1, e2⟩ := S.own j b d e
    rw [out e (fun z => nomatch z)] at e1
    exact ⟨q, e1, e2⟩
  · exact S.inj i j b c d e p h1 h2 (by rw [out h1 (fun z => nomatch z)]; exact h3) (by rw [out h2 (fun z => nomatch z)]; exact h4)
theorem lcS_core {α T : Type} {xs : List α} {enc : α → D} {E : T → En} {f : T → α → T} {y : T → α → D} {s0 : T} {scope : Scope} (hi : EvI X tg iter ρ (xs.map enc) m ρ0) (l0 : Le (E s0) (wipeE ρ0 vs)) (hno : ∀ s, ∀ j ∈ vs, ∀ t, (E s)[j]? = some t → t = .no)
    (sub : ∀ j ∈ js, j ∈ vs) (step : ∀ x ∈ xs, ∀ s, ∃ ρ1 ρ2, (∀ s' H C cl fp, EvG (Bk X scope s' H C cl fp) tg (enc x) js (wipeE (E s) vs) ρ1) ∧ (∃ r : RK, (∀ s' H C cl fp, Ev (Bk X scope s' H C cl fp) elt ρ1 r true ρ2) ∧ r.st = true ∧ r.d = y s x) ∧ Le (E (f s x)) (wipeE ρ2 vs))
    (B : Base) (G : List (D × V)) (M O : Addr → Prop) (σ : L2.St) (H : Hp) (Q : VK) (S : Sim X.K B G M O H σ ρ)
    (k : ∀ v H', Stp true O H H' → Sim X.K B G M O H' σ (E (xs.foldl f s0)) → ResOk X.K M H H' (.n (.lst (runS f y s0 xs))) v → Q v H') : tLc (wI X tg iter) (bG X scope tg) (bTs X scope []) (bE X scope elt) vs σ H Q := by
  refine hi B G M O σ H _ S fun J H1 Γ s1 S1 hΓ hz hG => fun q hq => ?_
  rw [List.length_map] at hz
  have nO : ¬ O q := fun z => S1.mn q (S1.om q z) hq
  have nB : ¬ B.M q ∧ B.H q = none := ⟨fun z => S1.mn q (S1.m0 q z) hq, S1.ext.no hq⟩
  let P : Nat → Hp → Prop := fun i H' => i ≤ xs.length ∧ Stp true O H1 H' ∧ Sim X.K B (Γ ++ G) (fun a => M a ∨ a = q) O H' (L2.wipe σ vs) (E ((xs.take i).foldl f s0)) ∧ ∃ acc, H' q = some (.lst acc) ∧ DenL X.K (fun a => M a ∨ a = q) H' (runS f y s0 (xs.take i)) acc
  refine ⟨fun i n H' => P i H' ∧ n = xs.length - i, ⟨xs.length, ⟨Nat.zero_le _, Stp.new hq, ?_, [], upd_same, by simp [runS]; exact .nil⟩, by omega⟩, fun i n H' hP => ?_⟩
  · exact (((S1.gadd hΓ).hide hq).wipe vs).weak l0
  obtain ⟨⟨hi', s2, S2, acc, ea, dl⟩, hn⟩ := hP
  have T := hG (fun a => M a ∨ a = q) H' S2.mn fun x hx => S2.gh x (List.mem_append_left _ hx)
  by_cases hil : i < xs.length
  · obtain ⟨x, hx⟩ : ∃ x, xs[i]? = some x := ⟨xs[i], List.getElem?_eq_getElem hil⟩
    have hxm : x ∈ xs := List.mem_of_getElem? hx
    obtain ⟨go, yl⟩ := T.1 i (enc x) (by rw [List.getElem?_map, hx]; rfl)
    refine .inr ⟨go, fun H' => P (i + 1) H', fun H2 h => ⟨xs.length - (i + 1), by omega, h, rfl⟩, fun v H2 hy => ?_⟩
    obtain ⟨s3, dv⟩ := yl v H2 hy
    have s3' : Stp false O H' H2 := s3.of
    have S3 := S2.stp s3'
    obtain ⟨ρ1, ρ2, eg, ⟨r, er, st, ey⟩, hl2⟩ := step x hxm ((xs.take i).foldl f s0)
    have ew : L2.wipe (L2.wipe σ vs) vs = L2.wipe σ vs := wipe_same
    intro s' H'' C cl fp
    have S3w := S3.wipe vs
    rw [ew] at S3w
    refine eg s' H'' C cl fp B (Γ ++ G) _ O _ H2 v _ S3w dv fun us S4 => ⟨wipe_setAll sub wipe_same, ?_⟩
    intro s' H'' C cl fp
    refine ets_nil B (Γ ++ G) _ O _ H2 _ S4 fun H3 s5 S5 => ?_
    rw [if_pos rfl]
    intro s' H'' C cl fp
    refine er s' H'' C cl fp B (Γ ++ G) _ O _ H3 _ S5 fun w H4 s6 S6 rw_ => ?_
    have s24 : Stp true O H' H4 := by
      have := (s3'.trans s5).trans s6
      rwa [Bool.or_true] at this
    have keep : ∀ a o, ¬ (M a ∨ a = q) → NT o = true → H' a = some o → H4 a = some o := fun a o n nt e => s24.k a o (fun _ z => n (.inl (S1.om a z))) nt e
    have q4 : H4 q = some (.lst acc) := s24.k q _ (fun _ z => nO z) rfl ea
    have dl4 := dl.to (M' := fun a => M a ∨ a = q) (H' := H4) (fun _ _ z => z) keep
    have dw := rw_.den st S5.mn
    rw [ey] at dw
    have hlen := dl.length
    rw [runS_len, List.length_take] at hlen
    have et : xs.take (i + 1) = xs.take i ++ [x] := by rw [List.take_add_one, hx]; rfl
    have s14 : Stp true O H1 H4 := s2.trans s24
    have S6w := S6.wipe vs
    rw [wipe_setAll sub wipe_same] at S6w
    refine ⟨acc, q4, by omega, hil, ⟨fun a o n nt e => ?_, fun a h => ?_, fun p h => TabQ.put (s14.t p h) q4 rfl⟩, ?_, acc ++ [w], upd_same, ?_⟩
    · have na : a ≠ q := fun z => by rw [z, hq] at e; cases e
      rw [upd_ne na]
      exact s14.k a o n nt e
    · by_cases z : a = q
      · rw [z, upd_same]; exact fun q => nomatch q
      · rw [upd_ne z]; exact s14.d a h
    · rw [et, List.foldl_append]
      exact (S6w.weak hl2).hid q4 nO nB
    · rw [et, runS_snoc]
      exact (dl4.append (.cons dw .nil)).to (fun _ _ z => z) fun a o n _ e => by rw [upd_ne (fun z => n (.inr z))]; exact e
  · have ei : i = xs.length := by omega
    subst ei
    rw [List.take_length] at dl S2
    have hlen := dl.length
    rw [runS_len] at hlen
    have S2' : Sim X.K B G M O H' σ (E (xs.foldl f s0)) := by
      have U := S2.gsub (G := G) fun x hx => List.mem_append_right _ hx
      have V := U.unwipe fun j hj t e => hno _ j hj t e
      have sub' : ∀ a, H' a ≠ none → M a → (M a ∨ a = q) := fun _ _ z => .inl z
      have keep : ∀ a u, ¬ (M a ∨ a = q) → NT u = true → H' a = some u → H' a = some u := fun _ _ _ _ e => e
      refine ⟨V.len, V.ext, V.gd, S1.m0, S1.om, fun a h => V.mn a (.inl h), S1.on, fun x hx => (V.gh x hx).to sub' keep, fun j d e => ?_, fun j b d e => ?_, V.inj, V.bo⟩
      · obtain ⟨v, e1, e2⟩ := V.val j d e
        exact ⟨v, e1, e2.to sub' keep⟩
      · obtain ⟨p, e1, e2, e3, e4⟩ := V.own j b d e
        exact ⟨p, e1, e2, e3, e4.to sub' keep rfl⟩
    refine .inl ⟨by have := T.2; rwa [List.length_map] at this, k _ H' (by have := s1.trans s2; rwa [Bool.or_true] at this) S2' ⟨q, rfl, s1.fresh S1.om S1.mn hq, by rw [runS_len]; exact hz, acc, ea, dl⟩⟩
theorem ev_lcS {α T : Type} {xs : List α} {enc : α → D} (E : T → En) (f : T → α → T) (y : T → α → D) (s0 : T) {scope : Scope} (own : List (Str × Nat)) (hN : X.N.Nodup) (hi : EvI X tg iter ρ (xs.map enc) m ρ0) (l0 : Le (E s0) (wipeE ρ0 (own.map (·.2)))) (hno : ∀ s, ∀ j ∈ own.map (·.2), ∀ t, (E s)[j]? = some t → t = .no)
    (step : ∀ x ∈ xs, ∀ s, ∃ ρ1 ρ2, (∀ s' H C cl fp, EvG (Bk X scope s' H C cl fp) tg (enc x) js (wipeE (E s) (own.map (·.2))) ρ1) ∧ (∃ r : RK, (∀ s' H C cl fp, Ev (Bk X scope s' H C cl fp) elt ρ1 r true ρ2) ∧ r.st = true ∧ r.d = y s x) ∧ Le (E (f s x)) (wipeE ρ2 (own.map (·.2)))) (sub : ∀ j ∈ js, j ∈ own.map (·.2) := by decide) (hb : blkC X.N X.env.scope scope own = true := by kernel_rfl) (hc : X.calm = true := by rfl) (hs : ∀ x, foldedSetIterable iter X.env x = pure x := by intro _; rfl) :
    Ev X (.ListComp elt [⟨tg, iter, [], 0⟩] scope pos) ρ (.n (.lst (runS f y s0 xs))) true (E (xs.foldl f s0)) := fun B G M O σ H Q S k =>
  ⟨_, pe_lc hc hN pi_w (blkOk_by hb) pg_b pts_b pe_b hs, lcS_core hi l0 hno sub step B G M O σ H Q S k⟩
end
end N50
/-! text Ev7 -/
set_option maxHeartbeats 4000000
namespace N50
open PySem PySem.Spec PyProof.Rows L2
/-! ### a def that is handed the draws -/
/-- the slots at the start: the arguments, the draws at place j -/
def rhoS (N : List Str) (j : Nat) (ds : List D) (ns : List Int) : En := rho0 N ((ds.map Sl.val).take j ++ [.own false (.lst (ns.map .int))] ++ (ds.map Sl.val).drop j)
def PoS (j : Nat) (r : RK) (ns' : List Int) : Po := { nx := fun _ => False, rt := fun r' ρ => r' = r ∧ ρ[j]? = some (.own false (.lst (ns'.map .int))) }
theorem startSimS {K : PySem.W.Frag} {N : List Str} {H : Hp} {M : Addr → Prop} {ds : List D} {vs : List V} {j : Nat} {q : Addr} {ns : List Int} (gd : Good K H) (mn : ∀ a, M a → H a ≠ none) (mq : M q) (hj : vs[j]? = some (.ref q)) (hq : H q = some (.lst (ns.map V.int))) (hz : ns.length ≤ sizeLine) (l : DenL K M H ds (vs.eraseIdx j)) (hd : j ≤ ds.length) :
    Sim K ⟨H, M, fun a => a = q⟩ [] M (fun a => a = q) H (L2.start N vs) (rhoS N j ds ns) := by
  have hl := l.length
  have hjv : j < vs.length := (List.getElem?_eq_some_iff.mp hj).1
  rw [List.length_eraseIdx_of_lt hjv] at hl
  have len : (((ds.map Sl.val).take j ++ [Sl.own false (.lst (ns.map .int))] ++ (ds.map Sl.val).drop j)).length = vs.length := by
    simp only [List.length_append, List.length_take, List.length_drop, List.length_map, List.length_singleton]
    omega
  have at_ : ∀ (i : Nat) (s : Sl), (rhoS N j ds ns)[i]? = some s → s ≠ .no → (i = j ∧ s = .own false (.lst (ns.map .int))) ∨ (i < j ∧ (ds.map Sl.val)[i]? = some s) ∨ (j < i ∧ (ds.map Sl.val)[i - 1]? = some s) := fun i s e hs => by
    unfold rhoS rho0 at e
    by_cases hi : i < vs.length
    · rw [List.getElem?_append_left (by rw [len]; exact hi)] at e
      rcases Nat.lt_trichotomy i j with h | h | h
      · right; left
        rw [List.append_assoc, List.getElem?_append_left (by rw [List.length_take, List.length_map]; omega), List.getElem?_take, if_pos h] at e
        exact ⟨h, e⟩
      · left
        subst h
        rw [List.append_assoc, List.getElem?_append_right (by rw [List.length_take, List.length_map]; omega)] at e
        have : i - ((ds.map Sl.val).take i).length = 0 := by rw [List.length_take, List.length_map]; omega
        rw [this] at e
        exact ⟨rfl, (Option.some.inj e).symm⟩
      · right; right
        rw [List.getElem?_append_right (by rw [List.length_append, List.length_take, List.length_map, List.length_singleton]; omega), List.getElem?_drop] at e
        refine ⟨h, ?_⟩
        rw [← e]
        congr 1
        rw [List.length_append, List.length_take, List.length_map, List.length_singleton]
        omega
    · rw [List.getElem?_append_right (by rw [len]; omega), List.getElem?_replicate] at e
      split at e
      · cases e; exact absurd rfl hs
      · cases e
  have st : ∀ (i : Nat), i < vs.length → (L2.start N vs)[i]? = some vs[i]? := fun i hi => by
    unfold L2.start
    rw [List.getElem?_append_left (by rw [List.length_map]; exact hi), List.getElem?_map, List.getElem?_eq_getElem hi]
    rfl
  refine ⟨?_, Stp.refl, gd, fun _ h => h, fun a h => by rw [h]; exact mq, mn, fun a h => .inl h, fun x hx => by simp at hx, fun i d e => ?_, fun i b d e => ?_, fun i j' b c d e p h1 h2 h3 h4 => ?_, fun a h => by rw [h]; exact mq⟩
  · unfold L2.start rhoS rho0
    rw [List.length_append, List.length_append, len]
    simp only [List.length_map, List.length_replicate]
  · rcases at_ i _ e (fun z => nomatch z) with ⟨_, z⟩ | ⟨h1, h2⟩ | ⟨h1, h2⟩
    · cases z
    · rw [List.getElem?_map] at h2
      cases hq2 : ds[i]? with
      | none => rw [hq2] at h2; cases h2
      | some d' =>
        rw [hq2] at h2
        cases h2
        obtain ⟨v, e1, e2⟩ := l.get hq2
        rw [List.getElem?_eraseIdx_of_lt h1] at e1
        exact ⟨v, by rw [st i (by omega), e1], e2⟩
    · rw [List.getElem?_map] at h2
      cases hq2 : ds[i - 1]? with
      | none => rw [hq2] at h2; cases h2
      | some d' =>
        rw [hq2] at h2
        cases h2
        obtain ⟨v, e1, e2⟩ := l.get hq2
        rw [List.getElem?_eraseIdx_of_ge (by omega), show i - 1 + 1 = i by omega] at e1
        have hi : i < vs.length := (List.getElem?_eq_some_iff.mp e1).1
        exact ⟨v, by rw [st i hi, e1], e2⟩
  · rcases at_ i _ e (fun z => nomatch z) with ⟨z0, z⟩ | ⟨h1, h2⟩ | ⟨h1, h2⟩
    · cases z
      subst z0
      exact ⟨q, by rw [st i hjv, hj], rfl, ⟨(fun z => nomatch z), fun _ => rfl⟩, ⟨by rw [List.length_map]; exact hz, _, hq, DenL.ofInts ns⟩⟩
    · rw [List.getElem?_map] at h2
      cases hq2 : ds[i]? with
      | none => rw [hq2] at h2; cases h2
      | some d' => rw [hq2] at h2; cases h2
    · rw [List.getElem?_map] at h2
      cases hq2 : ds[i - 1]? with
      | none => rw [hq2] at h2; cases h2
      | some d' => rw [hq2] at h2; cases h2
  · have only : ∀ {i : Nat} {b : Bool} {d : D}, (rhoS N j ds ns)[i]? = some (.own b d) → i = j := fun {i b d} e => by
      rcases at_ i _ e (fun z => nomatch z) with ⟨z0, z⟩ | ⟨h1, h2⟩ | ⟨h1, h2⟩
      · exact z0
      · rw [List.getElem?_map] at h2
        cases hq2 : ds[i]? with
        | none => rw [hq2] at h2; cases h2
        | some d' => rw [hq2] at h2; cases h2
      · rw [List.getElem?_map] at h2
        cases hq2 : ds[i - 1]? with
        | none => rw [hq2] at h2; cases h2
        | some d' => rw [hq2] at h2; cases h2
    rw [only h1, only h2]
section
variable {P : Program} {w : World} {K : PySem.W.Frag} {mg : Str → Option Value} {base : Heap}
theorem fn_S {x qual : Str} {st : Stmt} {f : Addr} {fd : FuncData} {N ps : List Str} {k n j : Nat} {R : List D → List Int → RK → List Int → Prop} (F : Fun K x qual st f fd) (Sc : FnScope N ps (defScope st)) (hn : ps.length = n) (hR : ∀ ds ns r ns', R ds ns r ns' → ds.length + 1 = n ∧ j ≤ ds.length ∧ (ns.length ≤ sizeLine → ns'.length ≤ sizeLine))
    (hbody : ∀ (cdv : Value) (A : Around) (outer : List Env) (s : Shared) (H : Hp) (E : XK) (ds : List D) (ns : List Int) (r : RK) (ns' : List Int), Room k (xOf P w K mg base N qual (defScope st) f cdv A outer s H E).A → R ds ns r ns' →
      SS (xOf P w K mg base N qual (defScope st) f cdv A outer s H E) (defBody st) (PoS j r ns') (rhoS N j ds ns)) : FnOk P w K mg base CX0 (k + 1) f fd ps (SpS n j R K) := by
  refine F.ok Sc (fun vs H Q E h => by rw [h.1, hn]) fun cdv A outer s H vs Q E hr h => ?_
  obtain ⟨hv, gd, M, q, ns, ds, r, ns', mn, mq, hj, hq, hz, l, hRr, hst, kk⟩ := h
  obtain ⟨hd1, hd2, hzz⟩ := hR ds ns r ns' hRr
  refine ⟨_, pss_w, ?_⟩
  refine hbody cdv A outer s H E ds ns r ns' hr hRr ⟨H, M, fun a => a = q⟩ [] M (fun a => a = q) _ H _ (startSimS gd mn mq hj hq hz l hd2) ⟨fun ρ M' O' σ' H' h S => h.elim, fun r' ρ M' O' σ' H' v h S hv => ?_, fun ρ M' O' σ' H' h S => h.elim, fun ρ M' O' σ' H' h S => h.elim⟩
  obtain ⟨rfl, hs⟩ := h
  obtain ⟨p, e1, e2, e3, ez, ws, ew, lw⟩ := S.own j false _ hs
  have ep : p = q := e3.2 rfl
  subst ep
  have eu := lw.ints
  subst eu
  exact kk v H' S.ext ew (hzz hz) hv
end
end N50
/-! text L1 -/
set_option maxHeartbeats 4000000
namespace N50
open PySem PySem.Spec PyProof.Rows L2
section
variable {X : Cx} {c : Expr} {rest body els : List Stmt} {P : Po} {ρ ρ1 : En} {m : Bool} {pos : Pos}
theorem ss_join {t : Bool} (ρ2 : En) (h : EvT X c ρ t m ρ1) (k1 : t = true → SS X body { P with nx := fun ρ => Le ρ2 ρ } ρ1) (k2 : t = false → Le ρ2 ρ1) (k : SS X rest P ρ2) : SS X (.If c body [] pos :: rest) P ρ :=
  ss_when h (fun e => (k1 e).mono (fun ρ l => ss_weak l k) (fun _ _ z => z) (fun _ z => z) (fun _ z => z)) fun e => ss_weak (k2 e) k
theorem ss_joinE {t : Bool} (ρ2 : En) (h : EvT X c ρ t m ρ1) (k1 : t = true → SS X body { P with nx := fun ρ => Le ρ2 ρ } ρ1) (k2 : t = false → SS X els { P with nx := fun ρ => Le ρ2 ρ } ρ1) (k : SS X rest P ρ2) : SS X (.If c body els pos :: rest) P ρ :=
  ss_if h (fun e => (k1 e).mono (fun ρ l => ss_weak l k) (fun _ _ z => z) (fun _ z => z) (fun _ z => z)) fun e => (k2 e).mono (fun ρ l => ss_weak l k) (fun _ _ z => z) (fun _ z => z) (fun _ z => z)
end
abbrev s_law_draws : Stmt := topS 31
theorem sc_law_draws : FnScope ["_law_script", "_law_many", "_law_cells", "_law_rest", "_law_draws_here", "_law_k", "_law_at", "_law_once", "_law_cell_here"] ["_law_script", "_law_many"] (defScope s_law_draws) := ⟨rfl, rfl, rfl, by decide +kernel, rfl, by decide +kernel, by decide +kernel⟩
abbrev s_law_take : Stmt := topS 32
theorem sc_law_take : FnScope ["_law_draws_here", "_law_many"] ["_law_draws_here", "_law_many"] (defScope s_law_take) := ⟨rfl, rfl, rfl, by decide +kernel, rfl, by decide +kernel, by decide +kernel⟩
abbrev s_law_word : Stmt := topS 33
theorem sc_law_word : FnScope ["_law_number", "_law_word_here", "_law_k"] ["_law_number"] (defScope s_law_word) := ⟨rfl, rfl, rfl, by decide +kernel, rfl, by decide +kernel, by decide +kernel⟩
abbrev s_law_same : Stmt := topS 34
theorem sc_law_same : FnScope ["_law_actual", "_law_due", "_law_k"] ["_law_actual", "_law_due"] (defScope s_law_same) := ⟨rfl, rfl, rfl, by decide +kernel, rfl, by decide +kernel, by decide +kernel⟩
abbrev s_law_cell : Stmt := topS 35
theorem sc_law_cell : FnScope ["_law_script", "_law_draws_here"] ["_law_script", "_law_draws_here"] (defScope s_law_cell) := ⟨rfl, rfl, rfl, by decide +kernel, rfl, by decide +kernel, by decide +kernel⟩
abbrev s_law_greedy : Stmt := topS 36
theorem sc_law_greedy : FnScope ["_law_wishes", "_law_groups_here", "_law_offered", "_law_found", "_law_contract", "_law_full", "_law_group", "_law_x"] ["_law_wishes", "_law_groups_here", "_law_offered"] (defScope s_law_greedy) := ⟨rfl, rfl, rfl, by decide +kernel, rfl, by decide +kernel, by decide +kernel⟩
abbrev s_law_traded : Stmt := topS 37
theorem sc_law_traded : FnScope ["_law_contracts", "_law_choice_here", "_law_offered", "_law_buys", "_law_sells", "_law_found", "_law_k", "_law_number"] ["_law_contracts", "_law_choice_here", "_law_offered"] (defScope s_law_traded) := ⟨rfl, rfl, rfl, by decide +kernel, rfl, by decide +kernel, by decide +kernel⟩
abbrev s_law_choose : Stmt := topS 38
theorem sc_law_choose : FnScope ["_law_contracts", "_law_choice_here", "_law_offered", "_law_kind", "_law_found", "_law_part", "_law_row", "_law_buys", "_law_sells", "_law_many", "_law_contract"] ["_law_contracts", "_law_choice_here", "_law_offered"] (defScope s_law_choose) := ⟨rfl, rfl, rfl, by decide +kernel, rfl, by decide +kernel, by decide +kernel⟩
abbrev s_law_subsets : Stmt := topS 39
theorem sc_law_subsets : FnScope ["_law_contracts", "_law_found", "_law_contract", "_law_row"] ["_law_contracts"] (defScope s_law_subsets) := ⟨rfl, rfl, rfl, by decide +kernel, rfl, by decide +kernel, by decide +kernel⟩
abbrev s_law_table : Stmt := topS 40
theorem sc_law_table : FnScope ["_law_choice_here", "_law_sides", "_law_rows", "_law_offered", "_law_row", "_law_places", "_law_contract"] ["_law_choice_here"] (defScope s_law_table) := ⟨rfl, rfl, rfl, by decide +kernel, rfl, by decide +kernel, by decide +kernel⟩
abbrev s_law_mixed : Stmt := topS 41
theorem sc_law_mixed : FnScope ["_law_draws_here", "_law_contracts", "_law_share", "_law_row", "_law_contract"] ["_law_draws_here", "_law_contracts", "_law_share"] (defScope s_law_mixed) := ⟨rfl, rfl, rfl, by decide +kernel, rfl, by decide +kernel, by decide +kernel⟩
abbrev s_law_groups : Stmt := topS 42
theorem sc_law_groups : FnScope ["_law_draws_here", "_law_contracts", "_law_cut", "_law_groups_here", "_law_half", "_law_group"] ["_law_draws_here", "_law_contracts"] (defScope s_law_groups) := ⟨rfl, rfl, rfl, by decide +kernel, rfl, by decide +kernel, by decide +kernel⟩
abbrev s_law_pairs : Stmt := topS 43
theorem sc_law_pairs : FnScope ["_law_script", "_law_draws_here", "_law_order", "_law_most", "_law_shape", "_law_pairs_here", "_law_count", "_law_k", "_law_first", "_law_second", "_law_price"] ["_law_script", "_law_draws_here", "_law_order", "_law_most", "_law_shape"] (defScope s_law_pairs) := ⟨rfl, rfl, rfl, by decide +kernel, rfl, by decide +kernel, by decide +kernel⟩
abbrev s_law_plain_choice : Stmt := topS 44
theorem sc_law_plain_choice : FnScope ["_law_script", "_law_draws_here", "_law_buys", "_law_sells", "_law_share", "_law_wishes", "_law_rooms", "_law_kind", "_law_cost", "_law_choice_here"] ["_law_script", "_law_draws_here", "_law_buys", "_law_sells"] (defScope s_law_plain_choice) := ⟨rfl, rfl, rfl, by decide +kernel, rfl, by decide +kernel, by decide +kernel⟩
abbrev s_law_choice : Stmt := topS 45
theorem sc_law_choice : FnScope ["_law_script", "_law_draws_here", "_law_buys", "_law_sells", "_law_parts", "_law_many", "_law_places", "_law_k", "_law_own", "_law_first", "_law_contract", "_law_at"] ["_law_script", "_law_draws_here", "_law_buys", "_law_sells"] (defScope s_law_choice) := ⟨rfl, rfl, rfl, by decide +kernel, rfl, by decide +kernel, by decide +kernel⟩
abbrev s_law_unsteady_web : Stmt := topS 46
theorem sc_law_unsteady_web : FnScope ["_law_draws_here", "_law_place", "_law_number", "_law_two", "_law_choices", "_law_pairs_here", "_law_contracts", "_law_houses", "_law_k", "_law_pair"] ["_law_draws_here"] (defScope s_law_unsteady_web) := ⟨rfl, rfl, rfl, by decide +kernel, rfl, by decide +kernel, by decide +kernel⟩
abbrev s_law_wild : Stmt := topS 47
theorem sc_law_wild : FnScope ["_law_buys", "_law_sells", "_law_own", "_law_one", "_law_two"] ["_law_buys", "_law_sells"] (defScope s_law_wild) := ⟨rfl, rfl, rfl, by decide +kernel, rfl, by decide +kernel, by decide +kernel⟩
abbrev s_law_web : Stmt := topS 48
theorem sc_law_web : FnScope ["_law_script", "_law_draws_here", "_law_many", "_law_most", "_law_kind", "_law_web_here", "_law_houses", "_law_house", "_law_buys", "_law_sells", "_law_number"] ["_law_script", "_law_draws_here", "_law_many", "_law_most"] (defScope s_law_web) := ⟨rfl, rfl, rfl, by decide +kernel, rfl, by decide +kernel, by decide +kernel⟩
abbrev s_law_steady_web : Stmt := topS 49
theorem sc_law_steady_web : FnScope ["_law_script", "_law_draws_here", "_law_many", "_law_most", "_law_count", "_law_order", "_law_k", "_law_pairs_here", "_law_houses", "_law_buys", "_law_sells", "_law_name", "_law_number"] ["_law_script", "_law_draws_here", "_law_many", "_law_most"] (defScope s_law_steady_web) := ⟨rfl, rfl, rfl, by decide +kernel, rfl, by decide +kernel, by decide +kernel⟩
abbrev s_law_takes : Stmt := topS 50
theorem sc_law_takes : FnScope ["_law_web_here", "_law_house", "_law_offered"] ["_law_web_here", "_law_house", "_law_offered"] (defScope s_law_takes) := ⟨rfl, rfl, rfl, by decide +kernel, rfl, by decide +kernel, by decide +kernel⟩
abbrev s_law_power : Stmt := topS 51
theorem sc_law_power : FnScope ["_law_number"] ["_law_number"] (defScope s_law_power) := ⟨rfl, rfl, rfl, by decide +kernel, rfl, by decide +kernel, by decide +kernel⟩
abbrev s_law_bits : Stmt := topS 52
theorem sc_law_bits : FnScope ["_law_contracts", "_law_contract"] ["_law_contracts"] (defScope s_law_bits) := ⟨rfl, rfl, rfl, by decide +kernel, rfl, by decide +kernel, by decide +kernel⟩
abbrev s_law_set : Stmt := topS 53
theorem sc_law_set : FnScope ["_law_mask", "_law_number"] ["_law_mask"] (defScope s_law_set) := ⟨rfl, rfl, rfl, by decide +kernel, rfl, by decide +kernel, by decide +kernel⟩
abbrev s_law_plan : Stmt := topS 54
theorem sc_law_plan : FnScope ["_law_web_here", "_law_plan_here", "_law_house", "_law_buys", "_law_sells", "_law_chosen", "_law_offered", "_law_number"] ["_law_web_here"] (defScope s_law_plan) := ⟨rfl, rfl, rfl, by decide +kernel, rfl, by decide +kernel, by decide +kernel⟩
abbrev s_law_within : Stmt := topS 55
theorem sc_law_within : FnScope ["_law_every", "_law_mask"] ["_law_every"] (defScope s_law_within) := ⟨rfl, rfl, rfl, by decide +kernel, rfl, by decide +kernel, by decide +kernel⟩
abbrev s_law_is_kept : Stmt := topS 56
theorem sc_law_is_kept : FnScope ["_law_plan_here", "_law_network", "_law_buys", "_law_sells", "_law_chosen"] ["_law_plan_here", "_law_network"] (defScope s_law_is_kept) := ⟨rfl, rfl, rfl, by decide +kernel, rfl, by decide +kernel, by decide +kernel⟩
abbrev s_law_gains : Stmt := topS 57
theorem sc_law_gains : FnScope ["_law_plan_here", "_law_network", "_law_lot", "_law_buys", "_law_sells", "_law_chosen", "_law_own"] ["_law_plan_here", "_law_network", "_law_lot"] (defScope s_law_gains) := ⟨rfl, rfl, rfl, by decide +kernel, rfl, by decide +kernel, by decide +kernel⟩
abbrev s_law_has_gain : Stmt := topS 58
theorem sc_law_has_gain : FnScope ["_law_plan_here", "_law_network", "_law_every", "_law_lot"] ["_law_plan_here", "_law_network", "_law_every"] (defScope s_law_has_gain) := ⟨rfl, rfl, rfl, by decide +kernel, rfl, by decide +kernel, by decide +kernel⟩
abbrev s_law_at_rest : Stmt := topS 59
theorem sc_law_at_rest : FnScope ["_law_plan_here", "_law_every", "_law_found", "_law_network"] ["_law_plan_here", "_law_every"] (defScope s_law_at_rest) := ⟨rfl, rfl, rfl, by decide +kernel, rfl, by decide +kernel, by decide +kernel⟩
abbrev s_law : Stmt := topS 60
theorem sc_law : FnScope ["_law_script", "_law_draws_here", "_law_web_here", "_law_every", "_law_rest", "_law_mask", "_law_network", "_law_offers", "_law_found"] ["_law_script"] (defScope s_law) := ⟨rfl, rfl, rfl, by decide +kernel, rfl, by decide +kernel, by decide +kernel⟩

theorem tk_nil (many : Int) : tk many [] = (0, []) := if_pos rfl
theorem tk_snoc (many d : Int) (ds : List Int) : tk many (ds ++ [d]) = (d % many, ds) := by unfold tk; rw [if_neg (by simp)]; simp
theorem tk_le (many : Int) (ds : List Int) : (tk many ds).2.length ≤ ds.length := by unfold tk; split <;> simp
theorem tk_lt {many : Int} (h : 0 < many) (ds : List Int) : 0 ≤ (tk many ds).1 ∧ (tk many ds).1 < many := by
  unfold tk
  split
  · exact ⟨Int.le_refl 0, h⟩
  · exact ⟨Int.emod_nonneg _ (by omega), Int.emod_lt_of_pos _ h⟩
def R_take : List D → List Int → RK → List Int → Prop := fun ds ns r ns' => ∃ many : Int, ds = [.int many] ∧ 0 < many ∧ r = .v (.int (tk many ns).1) ∧ ns' = (tk many ns).2
def R_word : List D → RK → Prop := fun ds r => ∃ k : Int, ds = [.int k] ∧ r = .v (.str (lWord k))
def R_same : List D → RK → Prop := fun ds r => ∃ a b : Bool, ds = [.bl a, .bl b] ∧ r = .v (.bl (decide (a = b)))
def R_cell : List D → List Int → RK → List Int → Prop := fun ds ns r ns' => ∃ s : List Int, ds = [.scr s] ∧ r = .v (.int (lCell s ns).1) ∧ ns' = (lCell s ns).2
def R_draws : List D → RK → Prop := fun ds r => ∃ (s : List Int) (n : Nat), ds = [.scr s, .int (n : Nat)] ∧ n ≤ 1000 ∧ s.length ≤ 1000 ∧ r = .n (eL (lDraws s n))
section
variable {P : Program} {w : World} {K : PySem.W.Frag} {mg : Str → Option Value} {base : Heap} {f : Addr} {fd : FuncData}
theorem ok_take (F : Fun K "_law_take" "_law_take" s_law_take f fd) (T : Bt mg) : FnOk P w K mg base CX0 1 f fd ["_law_draws_here", "_law_many"] (SpS 2 0 R_take K) := by
  refine fn_S F sc_law_take rfl (fun ds ns r ns' h => ?_) fun cdv A outer s H E ds ns r ns' hr h => ?_
  · obtain ⟨many, rfl, _, _, rfl⟩ := h
    exact ⟨rfl, Nat.zero_le _, fun z => Nat.le_trans (tk_le _ _) z⟩
  · obtain ⟨many, rfl, hm, rfl, rfl⟩ := h
    have nd := sc_law_take.nd
    rcases List.eq_nil_or_concat ns with rfl | ⟨ms, d, rfl⟩
    · refine ss_when (EvT.is (et_c (ec_eq (ev_len (ev_o 0 rfl) T.len) ev_i (.int _ _))) (show _ = true from rfl)) (fun ht => ?_) (fun ht => nomatch ht)
      exact ss_ret ev_i ⟨_, .inl rfl, rfl, rfl⟩
    · rw [List.concat_eq_append]
      refine ss_when (EvT.is (et_c (ec_eq (ev_len (ev_o 0 rfl) T.len) ev_i (.int _ _))) (show _ = false from by rw [decide_eq_false_iff_not]; simp [D.its, RK.d]; omega)) (fun ht => nomatch ht) (fun ht => ?_)
      refine ss_ret (ev_mod (ev_int (ev_pop 0 rfl) rfl T.int) (ev_n 1 rfl) rfl rfl hm) ⟨_, .inl rfl, ?_, ?_⟩
      · rw [tk_snoc]
      · rw [tk_snoc]; rfl
theorem ok_same (F : Fun K "_law_same" "_law_same" s_law_same f fd) (T : Bt mg) : FnOk P w K mg base CX0 1 f fd ["_law_actual", "_law_due"] (SpP 2 R_same K) := by
  refine fn_P F sc_law_same rfl (fun ds r h => ?_) fun cdv A outer s H E ds r hr h => ?_
  · obtain ⟨a, b, rfl, _⟩ := h; rfl
  · obtain ⟨a, b, rfl, rfl⟩ := h
    have nd := sc_law_same.nd
    refine ss_when (et_v (ev_isBool (ev_n 1 rfl) rfl T.isinstance T.bool) rfl) (fun ht => ?_) (fun ht => nomatch ht)
    refine ss_ret (ev_and (ev_isBool (ev_n 0 rfl) rfl T.isinstance T.bool) rfl (fun _ => (ev_and1 (ev_c (ec_eq (ev_n 0 rfl) (ev_n 1 rfl) (.bl _ _))))) (fun _ => rfl)) ⟨_, .inl rfl, ?_⟩
    show RK.v _ = RK.v _
    simp
theorem ok_cell (F : Fun K "_law_cell" "_law_cell" s_law_cell f fd) (T : Bt mg) (Ct : Cal P w K mg base 1 "_law_take" (SpS 2 0 R_take K)) : FnOk P w K mg base CX0 2 f fd ["_law_script", "_law_draws_here"] (SpS 2 1 R_cell K) := by
  refine fn_S F sc_law_cell rfl (fun ds ns r ns' h => ?_) fun cdv A outer s H E ds ns r ns' hr h => ?_
  · obtain ⟨s, rfl, _, rfl⟩ := h
    refine ⟨rfl, Nat.le_refl _, fun z => ?_⟩
    unfold lCell
    split
    · exact z
    · exact Nat.le_trans (tk_le _ _) z
  · obtain ⟨s, rfl, rfl, rfl⟩ := h
    have nd := sc_law_cell.nd
    by_cases hs : s = []
    · subst hs
      refine ss_when (EvT.is (et_c (ec_eq (ev_len (ev_n 0 rfl) T.len) ev_i (.int _ _))) (show _ = true from rfl)) (fun ht => ?_) (fun ht => nomatch ht)
      exact ss_ret ev_i ⟨_, .inl rfl, rfl, rfl⟩
    · have hl : 0 < (s.length : Int) := by have := List.length_pos_iff.mpr hs; omega
      have hlen : D.int ((((D.scr s).its.length : Nat)) : Int) = D.int ((s.length : Nat) : Int) := lenM D.int s
      refine ss_when (EvT.is (et_c (ec_eq (ev_len (ev_n 0 rfl) T.len) ev_i (.int _ _))) (show _ = false from by rw [decide_eq_false_iff_not]; simp [D.its, RK.d]; exact hs)) (fun ht => nomatch ht) (fun ht => ?_)
      have ht := tk_lt hl ns
      refine ss_ret (ev_int (i := (lCell s ns).1) (ev_ix (d := .int (lCell s ns).1) (ev_n 0 rfl) (ev_callS0 1 Ct hr (ea_cons (ev_len (ev_n 0 rfl) T.len) ea_nil) rfl ⟨_, hlen ▸ rfl, hl, rfl, rfl⟩) rfl ?_) rfl T.int) ⟨_, .inl rfl, rfl, ?_⟩
      · obtain ⟨q, e1, e2⟩ := at_map (g := D.int) ht.1 ht.2
        show atI (s.map D.int) _ = _
        rw [e2]
        unfold lCell
        rw [if_neg hs, List.getD_eq_getElem?_getD, e1]; rfl
      · unfold lCell
        rw [if_neg hs]; rfl
end
end N50
/-! text L2 -/
set_option maxHeartbeats 4000000
namespace N50
open PySem PySem.Spec PyProof.Rows L2
theorem atN {α : Type} {g : α → D} {xs : List α} {a : Nat} (d : α) (h : a < xs.length) : atI (xs.map g) ((a : Nat) : Int) = some (g (xs.getD a d)) := by
  obtain ⟨x, e1, e2⟩ := at_map (g := g) (xs := xs) (i := ((a : Nat) : Int)) (by omega) (by omega)
  rw [e2, List.getD_eq_getElem?_getD]
  rw [Int.toNat_natCast] at e1
  rw [e1]; rfl
def R_greedy : List D → RK → Prop := fun ds r => ∃ (ws : List Int) (gs : List (List Int × Int)) (o : D) (ys : List Int), ds = [eT ws, .tup (gs.map eGrp), o] ∧ sq o ys ∧ ws.length ≤ 1000 ∧ r = .n (eL (lGreedy ws gs ys))
def R_ltraded : List D → RK → Prop := fun ds r => ∃ (cs : List Con) (room cost : Int) (b s : List Int) (o : D) (ys : List Int), ds = [.tup (cs.map eCon), ePl (.trader room cost b s), o] ∧ sq o ys ∧ RowOk cs.length b ∧ RowOk cs.length s ∧ r = .v (eL (lTraded cs room cost b s ys))
def R_subsets : List D → RK → Prop := fun ds r => ∃ (d : D) (cs : List Int), ds = [d] ∧ sq d cs ∧ cs.length ≤ 12 ∧ r = .n (.lst ((lSubsets cs).map eT))
def R_mixed : List D → List Int → RK → List Int → Prop := fun ds ns r ns' => ∃ (d : D) (cs : List Int) (share : Int), ds = [d, .int share] ∧ sq d cs ∧ cs.length ≤ 1000 ∧ r = .v (.tupN ((lMixed ns cs share).2.map .int)) ∧ ns' = (lMixed ns cs share).1
theorem lMixStep_len (share c : Int) (q : List Int × List Int) : (lMixStep share q c).1.length ≤ q.1.length := by
  unfold lMixStep
  split
  · exact Nat.le_trans (tk_le _ _) (tk_le _ _)
  · exact tk_le _ _
theorem lMixed_len : ∀ (cs : List Int) (share : Int) (q : List Int × List Int), (cs.foldl (lMixStep share) q).1.length ≤ q.1.length
  | [], share, q => Nat.le_refl _
  | c :: cs, share, q => Nat.le_trans (lMixed_len cs share _) (lMixStep_len share c q)
section
variable {P : Program} {w : World} {K : PySem.W.Frag} {mg : Str → Option Value} {base : Heap} {f : Addr} {fd : FuncData}
theorem ok_word (F : Fun K "_law_word" "_law_word" s_law_word f fd) (T : Bt mg) : FnOk P w K mg base CX0 1 f fd ["_law_number"] (SpP 1 R_word K) := by
  refine fn_P F sc_law_word rfl (fun ds r h => ?_) fun cdv A outer s H E ds r hr h => ?_
  · obtain ⟨k, rfl, _⟩ := h; rfl
  · obtain ⟨k, rfl, rfl⟩ := h
    have nd := sc_law_word.nd
    refine ss_set 1 nd ev_s ?_
    refine ss_for (xs := idxs 60) (enc := .int) (fun q : Int × Str => [.val (.int q.1), .val (.str q.2), .no]) (fun i q => i ≤ 60 ∧ q.2.length ≤ i ∧ lWordGo (60 - i) q.1 q.2 = lWord k) (k, "") .never (ei_idx (n := 60) ev_i rfl (by decide) T.range) ⟨by decide, Nat.le_refl _, rfl⟩ (by repeat (first | exact le_nil | refine le_no ?_ | refine le_eq ?_)) (fun i x q hx hJ => ⟨_, _, (eg_n 2 nd), ?_⟩) (fun q hJ => ?_)
    · obtain ⟨h1, h2, h3⟩ := hJ
      have hi := lt_of_get hx
      have hi' : i < 60 := by unfold idxs at hi; simpa using hi
      obtain ⟨n, hn⟩ : ∃ n, 60 - i = n + 1 := ⟨59 - i, by omega⟩
      rw [hn, lWordGo] at h3
      refine ss_when (et_c (ec_lt (ev_n 0 rfl) ev_i rfl rfl)) (fun ht => ss_break ?_) (fun ht => ?_)
      · rw [if_pos (of_decide_eq_true ht)] at h3
        refine ss_ret (ev_n 1 rfl) ⟨_, .inl rfl, ?_⟩
        show RK.v _ = RK.v _
        rw [← h3]
      · rw [if_neg (of_decide_eq_false ht)] at h3
        have m0 := Int.emod_nonneg (q.1 - 1) (b := 26) (by decide)
        have m1 := Int.emod_lt_of_pos (q.1 - 1) (b := 26) (by decide)
        obtain ⟨a, ha⟩ := Int.eq_ofNat_of_zero_le m0
        refine ss_set 1 nd (ev_cats (ev_ixS (ch := (Str.ofString "abcdefghijklmnopqrstuvwxyz").cps.toList.getD a 0) ev_s (ev_mod (ev_int (ev_sub (ev_n 0 rfl) ev_i rfl rfl) rfl T.int) ev_i rfl rfl (by decide)) rfl rfl (szb rfl) ?_) (ev_n 1 rfl) rfl rfl ?_) ?_
        · show atI _ ((q.1 - 1) % 26) = _
          rw [ha]
          unfold atI
          rw [ixN_nat (by show a < 26; omega)]
          rw [List.getD_eq_getElem?_getD]
          have : a < (Str.ofString "abcdefghijklmnopqrstuvwxyz").cps.toList.length := by show a < 26; omega
          show (Str.ofString "abcdefghijklmnopqrstuvwxyz").cps.toList[a]? = _
          rw [List.getElem?_eq_getElem this]; rfl
        · show 1 + q.2.length ≤ _
          exact szc (by omega)
        · refine ss_set 0 nd (ev_fdiv (ev_sub (ev_n 0 rfl) ev_i rfl rfl) ev_i rfl rfl ⟨by decide, by decide⟩) (ss_nil ⟨((q.1 - 1) / 26, ⟨#[(Str.ofString "abcdefghijklmnopqrstuvwxyz").cps.toList.getD a 0]⟩ ++ q.2), ⟨by omega, ?_, ?_⟩, by repeat (first | exact le_nil | refine le_no ?_ | refine le_eq ?_)⟩)
          · show (_ ++ q.2 : Str).length ≤ i + 1
            have : ((⟨#[(Str.ofString "abcdefghijklmnopqrstuvwxyz").cps.toList.getD a 0]⟩ : Str) ++ q.2).length = 1 + q.2.length := by
              show (_ ++ q.2.cps : Array Nat).size = 1 + q.2.cps.size
              rw [Array.size_append]; rfl
            omega
          · rw [show 60 - (i + 1) = n by omega]
            rw [ha, Int.toNat_natCast] at h3
            exact h3
    · obtain ⟨h1, h2, h3⟩ := hJ
      have : (idxs 60).length = 60 := by unfold idxs; simp
      rw [this] at h3
      refine ss_ret (ev_n 1 rfl) ⟨_, .inl rfl, ?_⟩
      show RK.v _ = RK.v _
      rw [← h3]; rfl
theorem ok_greedy (F : Fun K "_law_greedy" "_law_greedy" s_law_greedy f fd) (T : Bt mg) : FnOk P w K mg base CX0 1 f fd ["_law_wishes", "_law_groups_here", "_law_offered"] (SpP 3 R_greedy K) := by
  refine fn_P F sc_law_greedy rfl (fun ds r h => ?_) fun cdv A outer s H E ds r hr h => ?_
  · obtain ⟨ws, gs, o, ys, rfl, _⟩ := h; rfl
  · obtain ⟨ws, gs, o, ys, rfl, ho, hz, rfl⟩ := h
    have nd := sc_law_greedy.nd
    refine ss_setN 3 nd (ev_lst ea_nil) ?_
    refine ss_forF (xs := ws) (enc := .int) (fun fo : List Int => [.val (eT ws), .val (.tup (gs.map eGrp)), .val o, .own true (eL fo), .no, .no, .no, .no]) (fun fo c => if (decide (c ∈ ys) && !lFull gs fo c) = true then fo ++ [c] else fo) (fun i fo => fo.length ≤ i) [] .never (ei_sq (ev_n 0 rfl) rfl) (Nat.le_refl _) (by repeat (first | exact le_nil | refine le_no ?_ | refine le_eq ?_)) (fun i x fo hx hJ => ⟨?_, _, _, (eg_n 4 nd), ?_⟩) (fun hJ => ?_)
    · split
      · rw [List.length_append, List.length_singleton]; omega
      · omega
    · refine ss_set 5 nd ev_bl ?_
      refine ss_for (xs := gs) (enc := eGrp) (fun b : Bool => [.val (eT ws), .val (.tup (gs.map eGrp)), .val o, .own true (eL fo), .val (.int x), .val (.bl b), .no, .no]) (fun i b => b = lFull (gs.take i) fo x) false .never (ei_sq (ev_n 1 rfl) rfl) rfl (by repeat (first | exact le_nil | refine le_no ?_ | refine le_eq ?_)) (fun j g b hg hb => ⟨_, _, (eg_n 6 nd), ?_⟩) (fun b hb => ?_)
      · have hsn : lFull (gs.take (j + 1)) fo x = (b || (decide (x ∈ g.1) && decide (g.2 ≤ (((fo.filter fun y => decide (y ∈ g.1)).length : Nat) : Int)))) := by
          unfold lFull at hb ⊢
          rw [List.take_add_one, hg, List.any_append, ← hb]; simp
        refine ss_when (EvT.is (et_w (ew_and (et_c (ec_in (ns := g.1) (ev_n 4 rfl) (ev_ix (ev_n 6 rfl) ev_i rfl rfl) rfl rfl)) (fun _ => (ew_and1 (et_c (ec_ge (i := (((fo.filter fun y => decide (y ∈ g.1)).length : Nat) : Int)) (j := g.2) (ev_len (ev_lc (xs := fo) (enc := .int) (fun y => decide (y ∈ g.1)) .int [("_law_x", 7)] nd (ep_own (ev_o 3 rfl) rfl) (fun x hx => ⟨_, fun s H C cl fp => (eg_n 7 nd), fun s H C cl fp => (ets_one (et_c (ec_in (ev_n 7 rfl) (ev_ix (ev_n 6 rfl) ev_i rfl rfl) rfl rfl))), fun _ => ⟨_, fun s H C cl fp => (ev_n 7 rfl), rfl, rfl⟩⟩)) T.len) (ev_ix (ev_n 6 rfl) ev_i rfl rfl) (lenM D.int _) rfl)))))) rfl) (fun ht => ?_) (fun ht => ?_)
        · refine ss_set 5 nd ev_bl (ss_nil (ss_nil ⟨true, ?_, by repeat (first | exact le_nil | refine le_no ?_ | refine le_eq ?_)⟩))
          rw [hsn, ht]; simp
        · refine ss_nil ⟨b, ?_, by repeat (first | exact le_nil | refine le_no ?_ | refine le_eq ?_)⟩
          rw [hsn, ht]; simp
      · rw [List.take_length] at hb
        refine ss_when (EvT.is (et_w (ew_and (et_c (ec_in (ns := ys) (ev_n 4 rfl) (ev_n 2 rfl) rfl ho.2 ho.1)) (fun _ => (ew_and1 (et_not (et_v (c := b) (ev_n 5 rfl) rfl)))))) (show _ = (decide (x ∈ ys) && !lFull gs fo x) by rw [hb])) (fun ht => ?_) (fun ht => ?_)
        · refine ss_app 3 (ev_n 4 rfl) rfl ?_ (ss_nil (ss_nil ?_))
          · rw [List.length_map]; exact szl (by have := lt_of_get hx; omega)
          · show Le [_, _, _, .own true (eL (if (decide (x ∈ ys) && !lFull gs fo x) = true then fo ++ [x] else fo)), _, _, _, _] _
            rw [if_pos ht, eL, List.map_append]
            repeat (first | exact le_nil | refine le_no ?_ | refine le_eq ?_)
        · refine ss_nil ?_
          show Le [_, _, _, .own true (eL (if (decide (x ∈ ys) && !lFull gs fo x) = true then fo ++ [x] else fo)), _, _, _, _] _
          rw [if_neg (by rw [ht]; exact Bool.false_ne_true)]
          repeat (first | exact le_nil | refine le_no ?_ | refine le_eq ?_)
    · exact ss_retO 3 rfl (.inl rfl)
theorem ok_mixed (F : Fun K "_law_mixed" "_law_mixed" s_law_mixed f fd) (T : Bt mg) (Ct : Cal P w K mg base 1 "_law_take" (SpS 2 0 R_take K)) : FnOk P w K mg base CX0 2 f fd ["_law_draws_here", "_law_contracts", "_law_share"] (SpS 3 0 R_mixed K) := by
  refine fn_S F sc_law_mixed rfl (fun ds ns r ns' h => ?_) fun cdv A outer s H E ds ns r ns' hr h => ?_
  · obtain ⟨d, cs, share, rfl, _, _, _, rfl⟩ := h
    refine ⟨rfl, Nat.zero_le _, fun z => Nat.le_trans (by unfold lMixed; exact lMixed_len cs share (ns, [])) z⟩
  · obtain ⟨d, cs, share, rfl, hd, hz, rfl, rfl⟩ := h
    have nd := sc_law_mixed.nd
    refine ss_setN 3 nd (ev_lst ea_nil) ?_
    refine ss_forF (xs := cs) (enc := .int) (fun q : List Int × List Int => [.own false (eL q.1), .val d, .val (.int share), .own true (eL q.2), .no]) (lMixStep share) (fun i q => q.2.length ≤ i) (ns, []) .never (ei_sq (ev_n 1 rfl) hd.2 hd.1) (Nat.le_refl _) (by repeat (first | exact le_nil | refine le_no ?_ | refine le_eq ?_)) (fun i x q hx hJ => ⟨?_, _, _, (eg_n 4 nd), ?_⟩) (fun hJ => ?_)
    · unfold lMixStep
      split
      · simp only [List.length_append, List.length_take, List.length_drop, List.length_singleton]; omega
      · exact Nat.le_succ_of_le hJ
    · have hi := lt_of_get hx
      refine ss_when (et_c (ec_lt (ev_callS0 0 Ct hr (ea_cons ev_i ea_nil) rfl ⟨8, rfl, by decide, rfl, rfl⟩) (ev_n 2 rfl) rfl rfl)) (fun ht => ?_) (fun ht => ?_)
      · have ht' := of_decide_eq_true ht
        have hp : (0 : Int) < (q.2.length : Int) + 1 := by omega
        have hb := tk_lt hp (tk 8 q.1).2
        obtain ⟨a, ha⟩ := Int.eq_ofNat_of_zero_le hb.1
        refine ss_ins 3 (n := a) (ea_cons (ev_callS0 0 Ct hr (ea_cons (ev_add (i := (q.2.length : Nat)) (ev_len (ev_o 3 rfl) T.len) ev_i (lenM D.int q.2) rfl) ea_nil) rfl ⟨_, rfl, hp, rfl, rfl⟩) (ea_cons (ev_n 4 rfl) ea_nil)) ?_ ?_ rfl ?_ (ss_nil (ss_nil ?_))
        · show D.int _ = D.int _
          rw [ha]
        · omega
        · rw [List.length_map]; exact szl (by omega)
        · show Le [.own false (eL (lMixStep share q x).1), _, _, .own true (eL (lMixStep share q x).2), _] _
          have e : lMixStep share q x = ((tk ((q.2.length : Int) + 1) (tk 8 q.1).2).2, q.2.take a ++ [x] ++ q.2.drop a) := by
            unfold lMixStep; rw [if_pos ht', ha, Int.toNat_natCast]
          rw [e]
          have e2 : eL (q.2.take a ++ [x] ++ q.2.drop a) = .lst ((q.2.map D.int).take a ++ [.int x] ++ (q.2.map D.int).drop a) := by
            rw [eL, List.map_append, List.map_append, List.map_take, List.map_drop]; rfl
          rw [e2]
          repeat (first | exact le_nil | refine le_no ?_ | refine le_eq ?_)
      · have ht' := of_decide_eq_false ht
        refine ss_nil ?_
        show Le [.own false (eL (lMixStep share q x).1), _, _, .own true (eL (lMixStep share q x).2), _] _
        have e : lMixStep share q x = ((tk 8 q.1).2, q.2) := by unfold lMixStep; rw [if_neg ht']
        rw [e]
        repeat (first | exact le_nil | refine le_no ?_ | refine le_eq ?_)
    · exact ss_ret (ev_tupleN (ev_o 3 rfl) rfl T.tuple) ⟨_, .inl rfl, rfl, rfl⟩
end
end N50
/-! text L3 -/
set_option maxHeartbeats 4000000
namespace N50
open PySem PySem.Spec PyProof.Rows L2 PySem.W
/-! ### sorted rows -/
theorem pdL_ints : ∀ ns : List Int, D.pdL (ns.map .int) = ns.map .int
  | [] => by simp [D.pdL]
  | n :: ns => by rw [List.map_cons, D.pdL, pdL_ints ns]; simp [D.pd]
theorem pd_eT (ns : List Int) : (eT ns).pd = .tuple (ns.map .int) := by
  show D.pd (.tup _) = _
  rw [D.pd, pdL_ints]
theorem pd_pr (q : Int × Int) : (ePr q).pd = .tuple [.int q.1, .int q.2] := by
  show D.pd (.tup _) = _
  simp [D.pd, D.pdL]
theorem sh_pr (n : Nat) (q : Int × Int) : (ePr q).sh (n + 1) = true := by
  show D.sh (n + 1) (.tup _) = true
  simp [D.sh, D.shL]
def eLR (r : List Int) : D := .tup [.int ((r.length : Nat) : Int), eT r]
theorem pd_lr (r : List Int) : (eLR r).pd = .tuple [.int r.length, .tuple (r.map .int)] := by
  unfold eLR
  rw [D.pd, D.pdL, D.pdL, D.pdL, pd_eT]; simp [D.pd]
theorem sh_lr (n : Nat) (r : List Int) : (eLR r).sh (n + 2) = true := by
  unfold eLR
  rw [D.sh, D.shL, D.shL, D.shL, sh_eT]; simp [D.sh]
def eTri (q : Int × Int × List Int) : D := .tup [.int q.1, .int q.2.1, eT q.2.2]
theorem pd_tri (q : Int × Int × List Int) : (eTri q).pd = .tuple [.int q.1, .int q.2.1, .tuple (q.2.2.map .int)] := by
  unfold eTri
  rw [D.pd, D.pdL, D.pdL, D.pdL, D.pdL, pd_eT]; simp [D.pd]
theorem sh_tri (n : Nat) (q : Int × Int × List Int) : (eTri q).sh (n + 2) = true := by
  unfold eTri
  rw [D.sh, D.shL, D.shL, D.shL, D.shL, sh_eT]; simp [D.sh]
theorem dataLe_of {α : Type} (enc : α → D) (e2 : α → PyData) (h : ∀ a, (enc a).pd = e2 a) (a b : α) : dataLe false e2 a b = dataLe false D.pd (enc a) (enc b) := by
  show (!dataLt (e2 b) (e2 a)) = !dataLt (enc b).pd (enc a).pd
  rw [h, h]
theorem sort_pr (xs : List (Int × Int)) : (xs.map ePr).mergeSort (dataLe false D.pd) = (xs.mergeSort fun p q => decide (p.1 < q.1 ∨ (p.1 = q.1 ∧ p.2 ≤ q.2))).map ePr := by
  refine (List.map_mergeSort (l := xs) (f := ePr) (s := dataLe false D.pd) fun a _ b _ => ?_).symm
  rw [← dataLe_of ePr (fun q => .tuple [.int q.1, .int q.2]) pd_pr]
  exact (congrFun (congrFun (dataLe_ii (β := Int × Int) (fun p => p.1) fun p => p.2) a) b).symm
theorem sort_lr (xs : List (List Int)) : (xs.map eLR).mergeSort (dataLe false D.pd) = (xs.mergeSort rowLe).map eLR :=
  (List.map_mergeSort (l := xs) (f := eLR) (r := rowLe) (s := dataLe false D.pd) fun a _ b _ => dataLe_of eLR _ pd_lr a b).symm
theorem sort_tri (xs : List (Int × Int × List Int)) : (xs.map eTri).mergeSort (dataLe false D.pd) = (xs.mergeSort triLe).map eTri :=
  (List.map_mergeSort (l := xs) (f := eTri) (r := triLe) (s := dataLe false D.pd) fun a _ b _ => dataLe_of eTri _ pd_tri a b).symm
theorem al_pr (xs : List (Int × Int)) : AllAlike ((xs.map ePr).map D.pd) := by
  rw [List.map_map, show D.pd ∘ ePr = fun q => .tuple [.int q.1, .int q.2] from funext pd_pr]
  exact .of fun _ _ => by simp [alike, alikeAll]
theorem so_pr (xs : List (Int × Int)) : Sortable ((xs.map ePr).map D.pd) := by
  rw [List.map_map, show D.pd ∘ ePr = fun q => .tuple [.int q.1, .int q.2] from funext pd_pr]
  exact .tuples fun _ => ⟨_, _, rfl⟩
theorem al_lr (xs : List (List Int)) : AllAlike ((xs.map eLR).map D.pd) := by
  rw [List.map_map, show D.pd ∘ eLR = fun r => .tuple [.int r.length, .tuple (r.map .int)] from funext pd_lr]
  exact .of fun _ _ => by simp [alike, alikeAll, alike_ints]
theorem so_lr (xs : List (List Int)) : Sortable ((xs.map eLR).map D.pd) := by
  rw [List.map_map, show D.pd ∘ eLR = fun r => .tuple [.int r.length, .tuple (r.map .int)] from funext pd_lr]
  exact .tuples fun _ => ⟨_, _, rfl⟩
theorem al_tri (xs : List (Int × Int × List Int)) : AllAlike ((xs.map eTri).map D.pd) := by
  rw [List.map_map, show D.pd ∘ eTri = fun q => .tuple [.int q.1, .int q.2.1, .tuple (q.2.2.map .int)] from funext pd_tri]
  exact .of fun _ _ => by simp [alike, alikeAll, alike_ints]
theorem so_tri (xs : List (Int × Int × List Int)) : Sortable ((xs.map eTri).map D.pd) := by
  rw [List.map_map, show D.pd ∘ eTri = fun q => .tuple [.int q.1, .int q.2.1, .tuple (q.2.2.map .int)] from funext pd_tri]
  exact .tuples fun _ => ⟨_, _, rfl⟩
theorem allb (bs : List Bool) : (!decide (false ∈ bs)) = bs.all id := by
  induction bs with
  | nil => rfl
  | cons b bs ih => rw [List.all_cons, ← ih]; cases b <;> simp
theorem idxs_get {n i : Nat} {x : Int} (h : (idxs n)[i]? = some x) : x = ((i : Nat) : Int) ∧ i < n := by
  have hi := lt_of_get h
  unfold idxs at h hi
  rw [List.length_map, List.length_range] at hi
  rw [List.getElem?_map, List.getElem?_range hi] at h
  exact ⟨(Option.some.inj h).symm, hi⟩
theorem mn3_nn {i j k : Int} (h1 : 0 ≤ i) (h2 : 0 ≤ j) (h3 : 0 ≤ k) : 0 ≤ mn3 i j k ∧ mn3 i j k ≤ i ∧ mn3 i j k ≤ j := by
  unfold mn3
  dsimp only
  split <;> split <;> omega
theorem subs_len : ∀ (cs : List Int), (subs cs).length = 2 ^ cs.length ∧ ∀ r ∈ subs cs, r.length ≤ cs.length := by
  have h : ∀ (cs : List Int) (fo : List (List Int)) (n : Nat), (∀ r ∈ fo, r.length ≤ n) → (cs.foldl (fun fo c => fo ++ fo.map fun r => r ++ [c]) fo).length = fo.length * 2 ^ cs.length ∧ ∀ r ∈ cs.foldl (fun fo c => fo ++ fo.map fun r => r ++ [c]) fo, r.length ≤ n + cs.length := by
    intro cs
    induction cs with
    | nil => intro fo n h; exact ⟨by simp, h⟩
    | cons c cs ih =>
      intro fo n h
      have := ih (fo ++ fo.map fun r => r ++ [c]) (n + 1) fun r hr => by
        rcases List.mem_append.mp hr with hr | hr
        · exact Nat.le_succ_of_le (h r hr)
        · obtain ⟨q, hq, rfl⟩ := List.mem_map.mp hr
          rw [List.length_append, List.length_singleton]
          exact Nat.succ_le_succ (h q hq)
      rw [List.foldl_cons]
      refine ⟨?_, fun r hr => by have := this.2 r hr; rw [List.length_cons]; omega⟩
      rw [this.1, List.length_append, List.length_map, List.length_cons, Nat.pow_succ, ← Nat.two_mul, Nat.mul_comm 2, Nat.mul_assoc, Nat.mul_comm 2]
  intro cs
  have := h cs [[]] 0 fun r hr => by simp at hr; simp [hr]
  unfold subs
  simpa using this
def R_lplain : List D → RK → Prop := fun ds r => ∃ (cs : List Con) (c : Pl) (b : D) (ys : List Int), ds = [.tup (cs.map eCon), ePl c, b] ∧ sq b ys ∧ cs.length ≤ 40 ∧ PlOk cs.length c ∧ (∀ room cost b s, c = .trader room cost b s → 0 ≤ room) ∧ r = .v (eT (lChooseP cs c ys))
section
variable {P : Program} {w : World} {K : PySem.W.Frag} {mg : Str → Option Value} {base : Heap} {f : Addr} {fd : FuncData}
theorem ok_subsets (F : Fun K "_law_subsets" "_law_subsets" s_law_subsets f fd) (T : Bt mg) : FnOk P w K mg base CX0 1 f fd ["_law_contracts"] (SpP 1 R_subsets K) := by
  refine fn_P F sc_law_subsets rfl (fun ds r h => ?_) fun cdv A outer s H E ds r hr h => ?_
  · obtain ⟨d, cs, rfl, _⟩ := h; rfl
  · obtain ⟨d, cs, rfl, hd, hz, rfl⟩ := h
    have nd := sc_law_subsets.nd
    refine ss_set 1 nd (ev_lst (ea_cons (ev_tup ea_nil) ea_nil)) ?_
    have key : ∀ i, subs (cs.take i) = (cs.take i).foldl (fun fo c => fo ++ fo.map fun r => r ++ [c]) [[]] := fun _ => rfl
    refine ss_forF (xs := cs) (enc := .int) (fun fo : List (List Int) => [.val d, .val (.lst (fo.map eT)), .no, .no]) (fun fo c => fo ++ fo.map fun r => r ++ [c]) (fun i fo => i ≤ cs.length ∧ fo = subs (cs.take i)) [[]] .never (ei_sq (ev_n 0 rfl) hd.2 hd.1) ⟨Nat.zero_le _, by simp [subs]⟩ (by repeat (first | exact le_nil | refine le_no ?_ | refine le_eq ?_)) (fun i x fo hx hJ => ⟨?_, _, _, (eg_n 2 nd), ?_⟩) (fun hJ => ?_)
    · refine ⟨lt_of_get hx, ?_⟩
      rw [hJ.2]
      unfold subs
      rw [List.take_add_one, hx, List.foldl_append]; rfl
    · have hi := lt_of_get hx
      have hl := subs_len (cs.take i)
      rw [← hJ.2, List.length_take, Nat.min_eq_left hJ.1] at hl
      have hp : 2 ^ i ≤ 2 ^ 12 := Nat.pow_le_pow_right (by decide) (by omega)
      refine ss_set 1 nd (ev_cat (ev_n 1 rfl) (ev_lc (xs := fo) (enc := eT) (fun _ => true) (fun r => eT (r ++ [x])) [("_law_row", 3)] nd (ep_sq (ev_n 1 rfl) rfl) (fun r hr => ⟨_, fun s H C cl fp => (eg_n 3 nd), fun s H C cl fp => ets_nil, fun _ => ⟨_, fun s H C cl fp => (ev_catT (ev_n 3 rfl) (ev_tup (ea_cons (ev_n 2 rfl) ea_nil)) rfl rfl ?_), rfl, ?_⟩⟩)) rfl rfl ?_) (ss_nil ?_)
      · have := hl.2 r hr
        rw [List.length_map]
        exact szc (by simp; omega)
      · show D.tup _ = D.tup _
        rw [List.map_append]; rfl
      · rw [List.filter_eq_self.mpr (fun _ _ => rfl), List.length_map, List.length_map]
        exact szc (by omega)
      · show Le [_, .val (.lst ((fo ++ fo.map fun r => r ++ [x]).map eT)), _, _] _
        rw [List.filter_eq_self.mpr (fun _ _ => rfl), List.map_append, List.map_map]
        exact le_eq (le_eq (le_no (le_no le_nil)))
    · have hl := subs_len cs
      have hp : 2 ^ cs.length ≤ 2 ^ 12 := Nat.pow_le_pow_right (by decide) (by omega)
      have e0 : cs.foldl (fun fo c => fo ++ fo.map fun r => r ++ [c]) [[]] = subs cs := rfl
      rw [e0]
      refine ss_ret (ev_lc (xs := lSubsets cs) (enc := eLR) (fun _ => true) eT [("_law_row", 3)] nd (ep_sq (ev_sortedD (ds := (subs cs).map eLR) hr.units (ev_lc (xs := subs cs) (enc := eT) (fun _ => true) eLR [("_law_row", 3)] nd (ep_sq (ev_n 1 rfl) rfl) (fun r hr => ⟨_, fun s H C cl fp => (eg_n 3 nd), fun s H C cl fp => ets_nil, fun _ => ⟨_, fun s H C cl fp => (ev_tup (ea_cons (ev_len (ev_n 3 rfl) T.len) (ea_cons (ev_n 3 rfl) ea_nil))), rfl, ?_⟩⟩)) ?_ (al_lr _) (so_lr _) (fun d hd => ?_) T.sorted) ?_) (fun r hr => ⟨_, fun s H C cl fp => (eg_n 3 nd), fun s H C cl fp => ets_nil, fun _ => ⟨_, fun s H C cl fp => (ev_ix (ev_n 3 rfl) ev_i rfl rfl), rfl, rfl⟩⟩)) ⟨_, .inl rfl, ?_⟩
      · show D.tup [.int (((r.map D.int).length : Nat) : Int), eT r] = D.tup [.int ((r.length : Nat) : Int), eT r]
        rw [List.length_map]
      · rw [List.filter_eq_self.mpr (fun _ _ => rfl)]; rfl
      · obtain ⟨r, _, rfl⟩ := List.mem_map.mp hd
        exact sh_lr 38 r
      · exact sort_lr _
      · show RK.n _ = RK.n _
        rw [List.filter_eq_self.mpr (fun _ _ => rfl)]
theorem ok_ltraded (F : Fun K "_law_traded" "_law_traded" s_law_traded f fd) (T : Bt mg) : FnOk P w K mg base CX0 1 f fd ["_law_contracts", "_law_choice_here", "_law_offered"] (SpP 3 (fun ds r => ∃ (cs : List Con) (room cost : Int) (b s : List Int) (o : D) (ys : List Int), ds = [.tup (cs.map eCon), ePl (.trader room cost b s), o] ∧ 0 ≤ room ∧ sq o ys ∧ RowOk cs.length b ∧ RowOk cs.length s ∧ r = .v (eL (lTraded cs room cost b s ys))) K) := by
  refine fn_P F sc_law_traded rfl (fun ds r h => ?_) fun cdv A outer s H E ds r hr h => ?_
  · obtain ⟨cs, room, cost, b, s, o, ys, rfl, _⟩ := h; rfl
  · obtain ⟨cs, room, cost, b, s, o, ys, rfl, h0, ho, hb, hs, rfl⟩ := h
    have nd := sc_law_traded.nd
    have pb : ∀ n ∈ b, atI (cs.map eCon) n = some (eCon (conAt cs n)) ∧ (conAt cs n).p = price cs n := fun n hn => conAt_at (hb.2 n hn).1 (hb.2 n hn).2
    have psl : ∀ n ∈ s, atI (cs.map eCon) n = some (eCon (conAt cs n)) ∧ (conAt cs n).p = price cs n := fun n hn => conAt_at (hs.2 n hn).1 (hs.2 n hn).2
    refine ss_set 3 nd (ev_sortedD (ds := ((offer b ys).map fun c => (price cs c, c)).map ePr) hr.units (ev_lc (xs := b) (enc := .int) (fun n => decide (n ∈ ys)) (fun n => ePr (price cs n, n)) [("_law_number", 7)] nd (ep_sq (ev_ix (ev_n 1 rfl) ev_i rfl rfl) rfl) (fun n hn => ⟨_, fun s H C cl fp => (eg_n 7 nd), fun s H C cl fp => (ets_one (et_c (ec_in (ns := ys) (ev_n 7 rfl) (ev_n 2 rfl) rfl ho.2 ho.1))), fun _ => ⟨_, fun s H C cl fp => (ev_tup (ea_cons (ev_ix (d := .int (price cs n)) (ev_ix (d := eCon (conAt cs n)) (ev_n 0 rfl) (ev_n 7 rfl) rfl (by exact (pb n hn).1)) ev_i rfl (by rw [← (pb n hn).2]; rfl)) (ea_cons (ev_n 7 rfl) ea_nil))), rfl, rfl⟩⟩)) ?_ (al_pr _) (so_pr _) (fun d hd => ?_) T.sorted) ?_
    · show D.lst _ = D.lst _
      rw [List.map_map]; rfl
    · obtain ⟨q, _, rfl⟩ := List.mem_map.mp hd
      exact sh_pr 39 q
    · rw [sort_pr]
      refine ss_set 4 nd (ev_sortedD (ds := ((offer s ys).map fun c => (-price cs c, c)).map ePr) hr.units (ev_lc (xs := s) (enc := .int) (fun n => decide (n ∈ ys)) (fun n => ePr (-price cs n, n)) [("_law_number", 7)] nd (ep_sq (ev_ix (ev_n 1 rfl) ev_i rfl rfl) rfl) (fun n hn => ⟨_, fun s H C cl fp => (eg_n 7 nd), fun s H C cl fp => (ets_one (et_c (ec_in (ns := ys) (ev_n 7 rfl) (ev_n 2 rfl) rfl ho.2 ho.1))), fun _ => ⟨_, fun s H C cl fp => (ev_tup (ea_cons (ev_neg (i := price cs n) (ev_ix (d := .int (price cs n)) (ev_ix (d := eCon (conAt cs n)) (ev_n 0 rfl) (ev_n 7 rfl) rfl (by exact (psl n hn).1)) ev_i rfl (by rw [← (psl n hn).2]; rfl)) rfl) (ea_cons (ev_n 7 rfl) ea_nil))), rfl, rfl⟩⟩)) ?_ (al_pr _) (so_pr _) (fun d hd => ?_) T.sorted) ?_
      · show D.lst _ = D.lst _
        rw [List.map_map]; rfl
      · obtain ⟨q, _, rfl⟩ := List.mem_map.mp hd
        exact sh_pr 39 q
      · rw [sort_pr]
        refine ss_set 5 nd (ev_lst ea_nil) ?_
        have hlb : (lPB cs b ys).length ≤ 40 := by unfold lPB; rw [List.length_mergeSort, List.length_map]; exact offer_le hb
        have hls : (lPS cs s ys).length ≤ 40 := by unfold lPS; rw [List.length_mergeSort, List.length_map]; exact offer_le hs
        have hn := mn3_nn (i := ((lPB cs b ys).length : Nat)) (j := ((lPS cs s ys).length : Nat)) (by omega) (by omega) h0
        obtain ⟨n, en⟩ := Int.eq_ofNat_of_zero_le hn.1
        have eT0 : lTraded cs room cost b s ys = lPairsGo cost (((lPB cs b ys).zip (lPS cs s ys)).take n) [] := by
          unfold lTraded; rw [en, Int.toNat_natCast]
        show SS _ _ _ [_, _, _, .val (.lst ((lPB cs b ys).map ePr)), .val (.lst ((lPS cs s ys).map ePr)), .val (.lst []), .no, .no]
        generalize lPB cs b ys = bs at hlb hn en eT0 ⊢
        generalize lPS cs s ys = ss at hls hn en eT0 ⊢
        refine ss_for (xs := idxs n) (enc := .int) (fun fo : List Int => [.val (.tup (cs.map eCon)), .val (ePl (.trader room cost b s)), .val o, .val (.lst (bs.map ePr)), .val (.lst (ss.map ePr)), .val (eL fo), .no, .no]) (fun i fo => fo.length ≤ 2 * i ∧ lTraded cs room cost b s ys = lPairsGo cost (((bs.zip ss).take n).drop i) fo) [] .never (ei_idx (n := n) (ev_min3 (i := ((bs.length : Nat) : Int)) (j := ((ss.length : Nat) : Int)) (l := room) (ea_cons (ev_len (ev_n 3 rfl) T.len) (ea_cons (ev_len (ev_n 4 rfl) T.len) (ea_cons (ev_ix (ev_n 1 rfl) ev_i rfl rfl) ea_nil))) (lenM ePr bs) (lenM ePr ss) rfl T.min) (by show D.int (mn3 _ _ _) = _; rw [en]) (by omega) T.range) ⟨Nat.le_refl _, by rw [List.drop_zero]; exact eT0⟩ (by repeat (first | exact le_nil | refine le_no ?_ | refine le_eq ?_)) (fun i x fo hx hJ => ⟨_, _, (eg_n 6 nd), ?_⟩) (fun fo hJ => ?_)
        · obtain ⟨ex, hi⟩ := idxs_get hx
          have hib : i < bs.length := by omega
          have his : i < ss.length := by omega
          have hz : ((bs.zip ss).take n)[i]? = some (bs[i], ss[i]) := by
            rw [List.getElem?_take, if_pos hi, List.getElem?_zip_eq_some]
            exact ⟨List.getElem?_eq_getElem hib, List.getElem?_eq_getElem his⟩
          obtain ⟨j1, j2⟩ := hJ
          rw [drop_cons hz, lPairsGo] at j2
          have a1 : atI (bs.map ePr) x = some (ePr bs[i]) := by
            rw [ex]
            obtain ⟨q, e1, e2⟩ := at_map (g := ePr) (xs := bs) (i := ((i : Nat) : Int)) (by omega) (by omega)
            rw [Int.toNat_natCast, List.getElem?_eq_getElem hib] at e1
            rw [e2, Option.some.inj e1]
          have a2 : atI (ss.map ePr) x = some (ePr ss[i]) := by
            rw [ex]
            obtain ⟨q, e1, e2⟩ := at_map (g := ePr) (xs := ss) (i := ((i : Nat) : Int)) (by omega) (by omega)
            rw [Int.toNat_natCast, List.getElem?_eq_getElem his] at e1
            rw [e2, Option.some.inj e1]
          refine ss_when (et_c (ec_le (i := -(ss[i]).1) (j := (bs[i]).1 + cost) (ev_neg (i := (ss[i]).1) (ev_ix (d := .int (ss[i]).1) (ev_ix (ev_n 4 rfl) (ev_n 6 rfl) rfl a2) ev_i rfl rfl) rfl) (ev_add (i := (bs[i]).1) (ev_ix (d := .int (bs[i]).1) (ev_ix (ev_n 3 rfl) (ev_n 6 rfl) rfl a1) ev_i rfl rfl) (ev_ix (ev_n 1 rfl) ev_i rfl rfl) rfl rfl) rfl rfl)) (fun ht => ss_break ?_) (fun ht => ?_)
          · rw [if_pos (of_decide_eq_true ht)] at j2
            refine ss_ret (ev_n 5 rfl) ⟨_, .inl rfl, ?_⟩
            show RK.v _ = RK.v _
            rw [j2]
          · rw [if_neg (of_decide_eq_false ht)] at j2
            refine ss_set 5 nd (ev_cat (ev_n 5 rfl) (ev_lst (ea_cons (ev_ix (d := .int (bs[i]).2) (ev_ix (ev_n 3 rfl) (ev_n 6 rfl) rfl a1) ev_i rfl rfl) (ea_cons (ev_ix (d := .int (ss[i]).2) (ev_ix (ev_n 4 rfl) (ev_n 6 rfl) rfl a2) ev_i rfl rfl) ea_nil))) rfl rfl (by rw [List.length_map]; exact szc (by simp; omega))) (ss_nil ⟨fo ++ [(bs[i]).2, (ss[i]).2], ⟨?_, j2⟩, ?_⟩)
            · rw [List.length_append]; simp; omega
            · show Le [_, _, _, _, _, .val (eL (fo ++ [(bs[i]).2, (ss[i]).2])), _, _] _
              rw [eL, List.map_append]
              repeat (first | exact le_nil | refine le_no ?_ | refine le_eq ?_)
        · obtain ⟨j1, j2⟩ := hJ
          refine ss_ret (ev_n 5 rfl) ⟨_, .inl rfl, ?_⟩
          show RK.v _ = RK.v _
          rw [j2, List.drop_eq_nil_of_le (by rw [List.length_take]; unfold idxs; simp; omega)]; rfl
end
end N50
/-! text Lp -/
set_option maxHeartbeats 4000000
namespace N50
open PySem
/-! ### the plan of a web, as the law makes it -/
abbrev PlanE := Int × Int × List (Int × Int)
def lDict (w : Web) (h : Int) (own : Int) : List (Int × Int) := (lSubsets (lSet own)).foldl (fun kvs off => putD kvs (lBits off) (lBits (lTakes w h off))) []
def lOwn (w : Web) (h : Int) : Int := Builtin.bitOr (lBits (lBuys w h)) (lBits (lSells w h))
def lPlanStep (w : Web) (pl : List PlanE) (h : Int) : List PlanE := if 0 < lOwn w h then pl ++ [(lBits (lBuys w h), lBits (lSells w h), lDict w h (lOwn w h))] else pl
def lPlan (w : Web) : List PlanE := (idxs w.hs.length).foldl (lPlanStep w) []
def lWithin (every : Int) : List Int := (idxs (every + 1).toNat).filter fun m => decide (Builtin.bitAnd m every = m)
/-- what a house chooses out of a mask, by its plan -/
def lGet (q : PlanE) (m : Int) : Int := (lookD q.2.2 m).getD 0
def lKept (pl : List PlanE) (net : Int) : Bool := pl.all fun q => decide (lGet q (Builtin.bitAnd net (Builtin.bitOr q.1 q.2.1)) = Builtin.bitAnd net (Builtin.bitOr q.1 q.2.1))
def lGainOk (net lot : Int) (q : PlanE) : Bool := !(decide (0 < Builtin.bitAnd lot (Builtin.bitOr q.1 q.2.1)) && !decide (Builtin.bitAnd (lGet q (Builtin.bitAnd (Builtin.bitOr net lot) (Builtin.bitOr q.1 q.2.1))) (Builtin.bitAnd lot (Builtin.bitOr q.1 q.2.1)) = Builtin.bitAnd lot (Builtin.bitOr q.1 q.2.1)))
def lGains (pl : List PlanE) (net lot : Int) : Bool := pl.all (lGainOk net lot)
def lHasGain (pl : List PlanE) (net every : Int) : Bool := (lWithin (every - net)).any fun lot => decide (0 < lot) && lGains pl net lot
def lAtRest (pl : List PlanE) (every : Int) : List Int := (idxs (every + 1).toNat).filter fun net => lKept pl net && !lHasGain pl net every
/-- every mask that is asked is known to the plan -/
def PlanOk (every : Int) (pl : List PlanE) : Prop := ∀ q ∈ pl, ∀ m : Int, 0 ≤ m → m ≤ every → ∃ v, lookD q.2.2 (Builtin.bitAnd m (Builtin.bitOr q.1 q.2.1)) = some v
end N50
/-! text L4 -/
set_option maxHeartbeats 4000000
namespace N50
open PySem PySem.Spec PyProof.Rows L2
def NN : Pl → Prop | .trader room _ _ _ => 0 ≤ room | _ => True
def NNc : Ch → Prop | .pl p => NN p | .split ps => ∀ p ∈ ps, NN p
def R_lp : List D → RK → Prop := fun ds r => ∃ (cs : List Con) (c : Pl) (b : D) (ys : List Int), ds = [.tup (cs.map eCon), ePl c, b] ∧ sq b ys ∧ (∃ n, PlOk n c ∧ ∀ room cost b s, c = .trader room cost b s → n = cs.length) ∧ NN c ∧ r = .v (eT (lChooseP cs c ys))
def R_lc : List D → RK → Prop := fun ds r => ∃ (cs : List Con) (c : Ch) (b : D) (ys : List Int), ds = [.tup (cs.map eCon), eCh c, b] ∧ sq b ys ∧ ChOk cs.length c ∧ NNc c ∧ r = .v (eT (lChoose cs c ys))
def R_ltr : List D → RK → Prop := fun ds r => ∃ (cs : List Con) (room cost : Int) (b s : List Int) (o : D) (ys : List Int), ds = [.tup (cs.map eCon), ePl (.trader room cost b s), o] ∧ 0 ≤ room ∧ sq o ys ∧ RowOk cs.length b ∧ RowOk cs.length s ∧ r = .v (eL (lTraded cs room cost b s ys))
theorem lGreedy_len (gs : List (List Int × Int)) (off : List Int) : ∀ (ws fo : List Int), (ws.foldl (fun fo c => if (decide (c ∈ off) && !lFull gs fo c) = true then fo ++ [c] else fo) fo).length ≤ fo.length + ws.length
  | [], fo => by simp
  | c :: ws, fo => by
    rw [List.foldl_cons]
    refine Nat.le_trans (lGreedy_len gs off ws _) ?_
    split
    · rw [List.length_append, List.length_singleton, List.length_cons]; omega
    · rw [List.length_cons]; omega
theorem lPairs_len (cost : Int) : ∀ (qs : List ((Int × Int) × (Int × Int))) (fo : List Int), (lPairsGo cost qs fo).length ≤ fo.length + 2 * qs.length
  | [], fo => by simp [lPairsGo]
  | q :: qs, fo => by
    rw [lPairsGo]
    split
    · rw [List.length_cons]; omega
    · refine Nat.le_trans (lPairs_len cost qs _) ?_
      rw [List.length_append, List.length_cons]; simp; omega
theorem lChooseP_len {cs : List Con} {c : Pl} {n : Nat} {off : List Int} (h : PlOk n c) : (lChooseP cs c off).length ≤ 80 := by
  cases c with
  | table rows => exact Nat.le_trans (chosenRow_len h.2) (by decide)
  | caps b bg s sg =>
    show (isort _).length ≤ 80
    rw [(isort_perm _).length_eq, List.length_append]
    have g1 := lGreedy_len bg off b []
    have g2 := lGreedy_len sg off s []
    have := h.1.1
    have := h.2.1.1
    unfold lGreedy
    simp at *; omega
  | trader room cost b s =>
    show (isort _).length ≤ 80
    rw [(isort_perm _).length_eq]
    unfold lTraded
    refine Nat.le_trans (lPairs_len _ _ _) ?_
    rw [List.length_take, List.length_zip]
    have hlb : (lPB cs b off).length ≤ 40 := by unfold lPB; rw [List.length_mergeSort, List.length_map]; exact offer_le h.1
    simp; omega
  | sides br b sr s =>
    show (isort _).length ≤ 80
    rw [(isort_perm _).length_eq, List.length_append]
    have g1 := upTo_len (offer b off) br
    have g2 := upTo_len (offer s off) sr
    have := offer_le (off := off) h.1
    have := offer_le (off := off) h.2
    omega
  | maker room b s =>
    show (isort _).length ≤ 80
    rw [(isort_perm _).length_eq, List.length_append]
    have g1 := upTo_len (offer b off) (mn3 ((offer b off).length) ((offer s off).length) room)
    have g2 := upTo_len (offer s off) (mn3 ((offer b off).length) ((offer s off).length) room)
    have := offer_le (off := off) h.1
    have := offer_le (off := off) h.2
    omega
section
variable {P : Program} {w : World} {K : PySem.W.Frag} {mg : Str → Option Value} {base : Heap} {f : Addr} {fd : FuncData}
abbrev NLC : List Str := ["_law_contracts", "_law_choice_here", "_law_offered", "_law_kind", "_law_found", "_law_part", "_law_row", "_law_buys", "_law_sells", "_law_many", "_law_contract"]
set_option maxHeartbeats 8000000 in
theorem body_lp {k : Nat} (T : Bt mg) (Cg : Cal P w K mg base 1 "_law_greedy" (SpP 3 R_greedy K)) (Ct : Cal P w K mg base 1 "_law_traded" (SpP 3 R_ltr K)) (cdv : Value) (A : Around) (outer : List Env) (s : Shared) (H : Hp) (E : XK) (hr : Room (k + 1) (xOf P w K mg base NLC "_law_choose" (defScope s_law_choose) f cdv A outer s H E).A) {cs : List Con} {c : Pl} {o : D} {ys : List Int} (ho : sq o ys) {n : Nat} (hc : PlOk n c) (htr : ∀ room cost b s, c = .trader room cost b s → n = cs.length) (hn : NN c) :
    SS (xOf P w K mg base NLC "_law_choose" (defScope s_law_choose) f cdv A outer s H E) (defBody s_law_choose) (PoP (.v (eT (lChooseP cs c ys)))) (rho0 NLC ([.tup (cs.map eCon), ePl c, o].map .val)) := by
  have nd := sc_law_choose.nd
  cases c with
  | table rows =>
    refine ss_set 3 nd (ev_ix (ev_n 1 rfl) ev_i rfl rfl) ?_
    refine ss_when (EvT.is (et_c (ec_eq (ev_n 3 rfl) ev_s (.str _ _))) (show _ = false by decide +kernel)) (fun ht => nomatch ht) (fun ht => ?_)
    refine ss_when (EvT.is (et_c (ec_eq (ev_n 3 rfl) ev_s (.str _ _))) (show _ = true by decide +kernel)) (fun ht => ?_) (fun ht => nomatch ht)
    refine ss_for (xs := rows) (enc := eT) (fun _ : Unit => [.val (.tup (cs.map eCon)), .val (ePl (.table rows)), .val o, .no, .no, .no, .no, .no, .no, .no, .no]) (fun i _ => chosenRow rows ys = chosenRow (rows.drop i) ys) () .never (ei_sq (ev_ix (ev_n 1 rfl) ev_i rfl rfl) rfl) rfl (by repeat (first | exact le_nil | refine le_no ?_ | refine le_eq ?_)) (fun i x s hx hJ => ⟨_, _, (eg_n 6 nd), ?_⟩) (fun s hJ => ?_)
    · rw [drop_cons hx] at hJ
      refine ss_when (et_c (ec_notInB (ns := x.map fun c => decide (c ∈ ys)) ev_bl (ev_lc (xs := x) (enc := .int) (fun _ => true) (fun c => .bl (decide (c ∈ ys))) [("_law_contract", 10)] nd (ep_sq (ev_n 6 rfl) rfl) (fun c hc => ⟨_, fun s H C cl fp => (eg_n 10 nd), fun s H C cl fp => ets_nil, fun _ => ⟨_, fun s H C cl fp => (ev_c (ec_in (ns := ys) (ev_n 10 rfl) (ev_n 2 rfl) rfl ho.2 ho.1)), rfl, rfl⟩⟩)) rfl ?_)) (fun ht => ?_) (fun ht => ?_)
      · show List.map _ _ = _
        rw [List.filter_eq_self.mpr (fun _ _ => rfl), List.map_map]; rfl
      · rw [allb] at ht
        refine ss_ret (ev_n 6 rfl) ⟨_, .inl rfl, ?_⟩
        show RK.v _ = RK.v (eT (chosenRow rows ys))
        rw [hJ, chosenRow, if_pos ht]
      · rw [allb] at ht
        refine ss_nil ⟨(), ?_, by repeat (first | exact le_nil | refine le_no ?_ | refine le_eq ?_)⟩
        rw [hJ, chosenRow, if_neg (by rw [ht]; exact Bool.false_ne_true)]
    · refine ss_ret (ev_tup ea_nil) ⟨_, .inl rfl, ?_⟩
      rw [drop_all] at hJ
      show RK.v _ = RK.v (eT (chosenRow rows ys))
      rw [hJ]; rfl
  | caps b bg s sg =>
    refine ss_set 3 nd (ev_ix (ev_n 1 rfl) ev_i rfl rfl) ?_
    refine ss_when (EvT.is (et_c (ec_eq (ev_n 3 rfl) ev_s (.str _ _))) (show _ = false by decide +kernel)) (fun ht => nomatch ht) (fun ht => ?_)
    refine ss_when (EvT.is (et_c (ec_eq (ev_n 3 rfl) ev_s (.str _ _))) (show _ = false by decide +kernel)) (fun ht => nomatch ht) (fun ht => ?_)
    refine ss_when (EvT.is (et_c (ec_eq (ev_n 3 rfl) ev_s (.str _ _))) (show _ = true by decide +kernel)) (fun ht => ?_) (fun ht => nomatch ht)
    have z1 := hc.1.1
    have z2 := hc.2.1.1
    have g1 := lGreedy_len bg ys b []
    have g2 := lGreedy_len sg ys s []
    refine ss_ret (ev_tuple (ev_sorted (ns := lGreedy b bg ys ++ lGreedy s sg ys) (ev_cat (ev_call Cg (hr.mono (by omega)) (ea_cons (ev_ix (ev_n 1 rfl) ev_i rfl rfl) (ea_cons (ev_ix (ev_n 1 rfl) ev_i rfl rfl) (ea_cons (ev_n 2 rfl) ea_nil))) ⟨b, bg, o, ys, rfl, ho, by omega, rfl⟩) (ev_call Cg (hr.mono (by omega)) (ea_cons (ev_ix (ev_n 1 rfl) ev_i rfl rfl) (ea_cons (ev_ix (ev_n 1 rfl) ev_i rfl rfl) (ea_cons (ev_n 2 rfl) ea_nil))) ⟨s, sg, o, ys, rfl, ho, by omega, rfl⟩) rfl rfl ?_) ?_ T.sorted) T.tuple) ⟨_, .inl rfl, rfl⟩
    · rw [List.length_map, List.length_map]
      unfold lGreedy
      exact szc (by simp at *; omega)
    · show _ ++ _ = _
      rw [List.map_append]
  | trader room cost b s =>
    refine ss_set 3 nd (ev_ix (ev_n 1 rfl) ev_i rfl rfl) ?_
    refine ss_when (EvT.is (et_c (ec_eq (ev_n 3 rfl) ev_s (.str _ _))) (show _ = false by decide +kernel)) (fun ht => nomatch ht) (fun ht => ?_)
    refine ss_when (EvT.is (et_c (ec_eq (ev_n 3 rfl) ev_s (.str _ _))) (show _ = false by decide +kernel)) (fun ht => nomatch ht) (fun ht => ?_)
    refine ss_when (EvT.is (et_c (ec_eq (ev_n 3 rfl) ev_s (.str _ _))) (show _ = false by decide +kernel)) (fun ht => nomatch ht) (fun ht => ?_)
    refine ss_when (EvT.is (et_c (ec_eq (ev_n 3 rfl) ev_s (.str _ _))) (show _ = true by decide +kernel)) (fun ht => ?_) (fun ht => nomatch ht)
    have en := htr _ _ _ _ rfl
    subst en
    exact ss_ret (ev_tuple (ev_sorted (ns := lTraded cs room cost b s ys) (ev_call Ct (hr.mono (by omega)) (ea_cons (ev_n 0 rfl) (ea_cons (ev_n 1 rfl) (ea_cons (ev_n 2 rfl) ea_nil))) ⟨cs, room, cost, b, s, o, ys, rfl, hn, ho, hc.1, hc.2, rfl⟩) rfl T.sorted) T.tuple) ⟨_, .inl rfl, rfl⟩
  | sides br b sr s =>
    refine ss_set 3 nd (ev_ix (ev_n 1 rfl) ev_i rfl rfl) ?_
    refine ss_when (EvT.is (et_c (ec_eq (ev_n 3 rfl) ev_s (.str _ _))) (show _ = false by decide +kernel)) (fun ht => nomatch ht) (fun ht => ?_)
    refine ss_when (EvT.is (et_c (ec_eq (ev_n 3 rfl) ev_s (.str _ _))) (show _ = false by decide +kernel)) (fun ht => nomatch ht) (fun ht => ?_)
    refine ss_when (EvT.is (et_c (ec_eq (ev_n 3 rfl) ev_s (.str _ _))) (show _ = false by decide +kernel)) (fun ht => nomatch ht) (fun ht => ?_)
    refine ss_when (EvT.is (et_c (ec_eq (ev_n 3 rfl) ev_s (.str _ _))) (show _ = false by decide +kernel)) (fun ht => nomatch ht) (fun ht => ?_)
    refine ss_when (EvT.is (et_c (ec_eq (ev_n 3 rfl) ev_s (.str _ _))) (show _ = true by decide +kernel)) (fun ht => ?_) (fun ht => nomatch ht)
    have z1 := offer_le (off := ys) hc.1
    have z2 := offer_le (off := ys) hc.2
    have u1 := upTo_len (offer b ys) br
    have u2 := upTo_len (offer s ys) sr
    refine ss_set 7 nd (ev_slL (ev_lc (xs := b) (enc := .int) (fun x => decide (x ∈ ys)) .int [("_law_contract", 10)] nd (ep_sq (ev_ix (ev_n 1 rfl) ev_i rfl rfl) rfl) (fun x hx => ⟨_, fun s H C cl fp => (eg_n 10 nd), fun s H C cl fp => (ets_one (et_c (ec_in (ns := ys) (ev_n 10 rfl) (ev_n 2 rfl) rfl ho.2 ho.1))), fun _ => ⟨_, fun s H C cl fp => (ev_n 10 rfl), rfl, rfl⟩⟩)) rfl eo_none (eo_some (ev_ix (ev_n 1 rfl) ev_i rfl rfl) rfl)) ?_
    rw [show (RK.n (D.lst (cutD ((b.filter fun x => decide (x ∈ ys)).map D.int) none (some br)))).d = eL (upTo (offer b ys) br) by
      show D.lst _ = D.lst _
      rw [cut_upTo _ _ _ (by show (offer b ys).length ≤ _; omega)]; rfl]
    refine ss_ret (ev_tuple (ev_sorted (ns := upTo (offer b ys) br ++ upTo (offer s ys) sr) (ev_cat (ys := (upTo (offer s ys) sr).map .int) (ev_n 7 rfl) (ev_slL (ev_lc (xs := s) (enc := .int) (fun x => decide (x ∈ ys)) .int [("_law_contract", 10)] nd (ep_sq (ev_ix (ev_n 1 rfl) ev_i rfl rfl) rfl) (fun x hx => ⟨_, fun s H C cl fp => (eg_n 10 nd), fun s H C cl fp => (ets_one (et_c (ec_in (ns := ys) (ev_n 10 rfl) (ev_n 2 rfl) rfl ho.2 ho.1))), fun _ => ⟨_, fun s H C cl fp => (ev_n 10 rfl), rfl, rfl⟩⟩)) rfl eo_none (eo_some (ev_ix (ev_n 1 rfl) ev_i rfl rfl) rfl)) rfl ?_ ?_) ?_ T.sorted) T.tuple) ⟨_, .inl rfl, rfl⟩
    · show D.lst _ = D.lst _
      rw [cut_upTo _ _ _ (by show (offer s ys).length ≤ _; omega)]; rfl
    · rw [List.length_map, List.length_map]; exact szc (by omega)
    · show _ ++ _ = _
      rw [List.map_append]
  | maker room b s =>
    refine ss_set 3 nd (ev_ix (ev_n 1 rfl) ev_i rfl rfl) ?_
    refine ss_when (EvT.is (et_c (ec_eq (ev_n 3 rfl) ev_s (.str _ _))) (show _ = false by decide +kernel)) (fun ht => nomatch ht) (fun ht => ?_)
    refine ss_when (EvT.is (et_c (ec_eq (ev_n 3 rfl) ev_s (.str _ _))) (show _ = false by decide +kernel)) (fun ht => nomatch ht) (fun ht => ?_)
    refine ss_when (EvT.is (et_c (ec_eq (ev_n 3 rfl) ev_s (.str _ _))) (show _ = false by decide +kernel)) (fun ht => nomatch ht) (fun ht => ?_)
    refine ss_when (EvT.is (et_c (ec_eq (ev_n 3 rfl) ev_s (.str _ _))) (show _ = false by decide +kernel)) (fun ht => nomatch ht) (fun ht => ?_)
    refine ss_when (EvT.is (et_c (ec_eq (ev_n 3 rfl) ev_s (.str _ _))) (show _ = false by decide +kernel)) (fun ht => nomatch ht) (fun ht => ?_)
    refine ss_setLc 7 (xs := b) (enc := .int) (fun x => decide (x ∈ ys)) .int [("_law_contract", 10)] nd (ep_sq (ev_ix (ev_n 1 rfl) ev_i rfl rfl) rfl) (fun x hx => ⟨_, fun s H C cl fp => (eg_n 10 nd), fun s H C cl fp => (ets_one (et_c (ec_in (ns := ys) (ev_n 10 rfl) (ev_n 2 rfl) rfl ho.2 ho.1))), fun _ => ⟨_, fun s H C cl fp => (ev_n 10 rfl), rfl, rfl⟩⟩) ?_
    refine ss_setLc 8 (xs := s) (enc := .int) (fun x => decide (x ∈ ys)) .int [("_law_contract", 10)] nd (ep_sq (ev_ix (ev_n 1 rfl) ev_i rfl rfl) rfl) (fun x hx => ⟨_, fun s H C cl fp => (eg_n 10 nd), fun s H C cl fp => (ets_one (et_c (ec_in (ns := ys) (ev_n 10 rfl) (ev_n 2 rfl) rfl ho.2 ho.1))), fun _ => ⟨_, fun s H C cl fp => (ev_n 10 rfl), rfl, rfl⟩⟩) ?_
    refine ss_set 9 nd (ev_min3 (i := ((offer b ys).length : Nat)) (j := ((offer s ys).length : Nat)) (l := room) (ea_cons (ev_len (ev_n 7 rfl) T.len) (ea_cons (ev_len (ev_n 8 rfl) T.len) (ea_cons (ev_ix (ev_n 1 rfl) ev_i rfl rfl) ea_nil))) (lenM D.int _) (lenM D.int _) rfl T.min) ?_
    have z1 := offer_le (off := ys) hc.1
    have z2 := offer_le (off := ys) hc.2
    have u1 := upTo_len (offer b ys) (mn3 ((offer b ys).length) ((offer s ys).length) room)
    have u2 := upTo_len (offer s ys) (mn3 ((offer b ys).length) ((offer s ys).length) room)
    refine ss_ret (ev_tuple (ev_sorted (ns := upTo (offer b ys) (mn3 ((offer b ys).length) ((offer s ys).length) room) ++ upTo (offer s ys) (mn3 ((offer b ys).length) ((offer s ys).length) room)) (ev_cat (xs := (upTo (offer b ys) (mn3 ((offer b ys).length) ((offer s ys).length) room)).map .int) (ys := (upTo (offer s ys) (mn3 ((offer b ys).length) ((offer s ys).length) room)).map .int) (ev_slL (ev_n 7 rfl) rfl eo_none (eo_some (ev_n 9 rfl) rfl)) (ev_slL (ev_n 8 rfl) rfl eo_none (eo_some (ev_n 9 rfl) rfl)) ?_ ?_ ?_) ?_ T.sorted) T.tuple) ⟨_, .inl rfl, rfl⟩
    · show D.lst _ = D.lst _
      rw [cut_upTo _ _ _ (by show (offer b ys).length ≤ _; omega)]; rfl
    · show D.lst _ = D.lst _
      rw [cut_upTo _ _ _ (by show (offer s ys).length ≤ _; omega)]; rfl
    · rw [List.length_map, List.length_map]; exact szc (by omega)
    · show _ ++ _ = _
      rw [List.map_append]
theorem ok_lp (F : Fun K "_law_choose" "_law_choose" s_law_choose f fd) (T : Bt mg) (Cg : Cal P w K mg base 1 "_law_greedy" (SpP 3 R_greedy K)) (Ct : Cal P w K mg base 1 "_law_traded" (SpP 3 R_ltr K)) : FnOk P w K mg base CX0 2 f fd ["_law_contracts", "_law_choice_here", "_law_offered"] (SpP 3 R_lp K) := by
  refine fn_P F sc_law_choose rfl (fun ds r h => ?_) fun cdv A outer s H E ds r hr h => ?_
  · obtain ⟨cs, c, o, ys, rfl, _⟩ := h; rfl
  · obtain ⟨cs, c, o, ys, rfl, ho, ⟨n, hc, htr⟩, hn, rfl⟩ := h
    exact body_lp (k := 0) T Cg Ct cdv A outer s H E hr ho hc htr hn
theorem ok_lc (F : Fun K "_law_choose" "_law_choose" s_law_choose f fd) (T : Bt mg) (Cg : Cal P w K mg base 1 "_law_greedy" (SpP 3 R_greedy K)) (Ct : Cal P w K mg base 1 "_law_traded" (SpP 3 R_ltr K)) (Cp : Cal P w K mg base 2 "_law_choose" (SpP 3 R_lp K)) : FnOk P w K mg base CX0 4 f fd ["_law_contracts", "_law_choice_here", "_law_offered"] (SpP 3 R_lc K) := by
  refine fn_P F sc_law_choose rfl (fun ds r h => ?_) fun cdv A outer s H E ds r hr h => ?_
  · obtain ⟨cs, c, o, ys, rfl, _⟩ := h; rfl
  · obtain ⟨cs, c, o, ys, rfl, ho, hc, hn, rfl⟩ := h
    cases c with
    | pl c => exact body_lp (k := 2) T Cg Ct cdv A outer s H E hr ho hc (fun _ _ _ _ _ => rfl) hn
    | split ps =>
      have nd := sc_law_choose.nd
      refine ss_set 3 nd (ev_ix (ev_n 1 rfl) ev_i rfl rfl) ?_
      refine ss_when (EvT.is (et_c (ec_eq (ev_n 3 rfl) ev_s (.str _ _))) (show _ = true by decide +kernel)) (fun ht => ?_) (fun ht => nomatch ht)
      refine ss_set 4 nd (ev_lst ea_nil) ?_
      refine ss_forF (xs := ps) (enc := ePl) (fun fo : List Int => [.val (.tup (cs.map eCon)), .val (eCh (.split ps)), .val o, .no, .val (eL fo), .no, .no, .no, .no, .no, .no]) (fun fo p => fo ++ lChooseP cs p ys) (fun i fo => fo.length ≤ i * 80) [] .never (ei_sq (ev_ix (ev_n 1 rfl) ev_i rfl rfl) rfl) (Nat.zero_le _) (by repeat (first | exact le_nil | refine le_no ?_ | refine le_eq ?_)) (fun i p fo hx hJ => ⟨?_, _, _, (eg_n 5 nd), ?_⟩) (fun hJ => ?_)
      · have := lChooseP_len (cs := cs) (off := ys) (hc.2 p (mem_of_get hx))
        rw [List.length_append]; omega
      · have hl := lChooseP_len (cs := cs) (off := ys) (hc.2 p (mem_of_get hx))
        have hi := lt_of_get hx
        have hp := hc.1
        refine ss_set 4 nd (ev_cat (ev_n 4 rfl) (ev_list (ev_call Cp (hr.mono (by decide)) (ea_cons (ev_n 0 rfl) (ea_cons (ev_n 5 rfl) (ea_cons (ev_n 2 rfl) ea_nil))) ⟨cs, p, o, ys, rfl, ho, ⟨cs.length, hc.2 p (mem_of_get hx), fun _ _ _ _ _ => rfl⟩, hn p (mem_of_get hx), rfl⟩) T.list) rfl rfl ?_) (ss_nil ?_)
        · show (fo.map D.int).length + ((lChooseP cs p ys).map D.int).length ≤ _
          rw [List.length_map, List.length_map]; exact szc (by omega)
        · show Le [_, _, _, _, .val (eL (fo ++ lChooseP cs p ys)), _, _, _, _, _, _] _
          rw [eL, List.map_append]
          repeat (first | exact le_nil | refine le_no ?_ | refine le_eq ?_)
      · have e : ps.foldl (fun fo p => fo ++ lChooseP cs p ys) [] = ps.flatMap fun p => lChooseP cs p ys := by
          have h : ∀ (l : List Pl) (fo : List Int), l.foldl (fun fo p => fo ++ lChooseP cs p ys) fo = fo ++ l.flatMap fun p => lChooseP cs p ys := by
            intro l
            induction l with
            | nil => intro fo; simp
            | cons p l ih => intro fo; rw [List.foldl_cons, ih, List.flatMap_cons, List.append_assoc]
          rw [h]; rfl
        rw [e]
        exact ss_ret (ev_tuple (ev_sorted (ns := ps.flatMap fun p => lChooseP cs p ys) (ev_n 4 rfl) rfl T.sorted) T.tuple) ⟨_, .inl rfl, rfl⟩
end
end N50
/-! text L5 -/
set_option maxHeartbeats 4000000
namespace N50
open PySem PySem.Spec PyProof.Rows L2
def R_power : List D → RK → Prop := fun ds r => ∃ k : Int, ds = [.int k] ∧ 0 ≤ k ∧ k ≤ 12 ∧ r = .v (.int (lPow k))
def R_bits : List D → RK → Prop := fun ds r => ∃ (d : D) (cs : List Int), ds = [d] ∧ sq d cs ∧ (∀ c ∈ cs, 0 ≤ c ∧ c ≤ 12) ∧ r = .v (.int (lBits cs))
def R_set : List D → RK → Prop := fun ds r => ∃ m : Int, ds = [.int m] ∧ r = .v (eT (lSet m))
def R_ltakes : List D → RK → Prop := fun ds r => ∃ (w : Web) (h : Int) (o : D) (off : List Int), ds = [eWeb w, .int h, o] ∧ sq o off ∧ WOk w ∧ (∀ q ∈ w.hs, NNc q.2) ∧ HIx w h ∧ r = .v (eT (lTakes w h off))
def R_within : List D → RK → Prop := fun ds r => ∃ e : Int, ds = [.int e] ∧ 0 ≤ e ∧ e ≤ 5000 ∧ r = .n (eL (lWithin e))
def ePE (q : PlanE) : D := .tup [.int q.1, .int q.2.1, .dic q.2.2]
/-- small webs, as the law makes them -/
structure WS (w : Web) : Prop where
  W : WOk w
  hs : w.hs.length ≤ 12
  cs : w.cs.length ≤ 12
  nn : ∀ q ∈ w.hs, NNc q.2
  tk : ∀ h, HIx w h → ∀ off, ∀ c ∈ lTakes w h off, 0 ≤ c ∧ c ≤ 12
def R_plan : List D → RK → Prop := fun ds r => ∃ w : Web, ds = [eWeb w] ∧ WS w ∧ r = .n (.lst ((lPlan w).map ePE))
def R_kept : List D → RK → Prop := fun ds r => ∃ (pl : List PlanE) (net every : Int), ds = [.lst (pl.map ePE), .int net] ∧ PlanOk every pl ∧ 0 ≤ net ∧ net ≤ every ∧ r = .v (.bl (lKept pl net))
def R_gains : List D → RK → Prop := fun ds r => ∃ (pl : List PlanE) (net lot every : Int), ds = [.lst (pl.map ePE), .int net, .int lot] ∧ PlanOk every pl ∧ 0 ≤ Builtin.bitOr net lot ∧ Builtin.bitOr net lot ≤ every ∧ r = .v (.bl (lGains pl net lot))
def R_hasgain : List D → RK → Prop := fun ds r => ∃ (pl : List PlanE) (net every : Int), ds = [.lst (pl.map ePE), .int net, .int every] ∧ PlanOk every pl ∧ 0 ≤ net ∧ net ≤ every ∧ every ≤ 5000 ∧ (∀ lot ∈ lWithin (every - net), 0 ≤ Builtin.bitOr net lot ∧ Builtin.bitOr net lot ≤ every) ∧ r = .v (.bl (lHasGain pl net every))
def R_atrest : List D → RK → Prop := fun ds r => ∃ (pl : List PlanE) (every : Int), ds = [.lst (pl.map ePE), .int every] ∧ PlanOk every pl ∧ 0 ≤ every ∧ every ≤ 5000 ∧ (∀ net, 0 ≤ net → net ≤ every → ∀ lot ∈ lWithin (every - net), 0 ≤ Builtin.bitOr net lot ∧ Builtin.bitOr net lot ≤ every) ∧ r = .n (eL (lAtRest pl every))
theorem lSet_lt {m c : Int} (h : c ∈ lSet m) : 0 ≤ c ∧ c < 12 := by
  have := (List.mem_filter.mp h).1
  have := idxs_mem.mp this
  omega
theorem lSubsets_mem {cs r : List Int} (h : r ∈ lSubsets cs) : r ∈ subs cs := List.mem_mergeSort.mp h
theorem subs_sub : ∀ {cs r : List Int}, r ∈ subs cs → ∀ c ∈ r, c ∈ cs := by
  have h : ∀ (cs : List Int) (fo : List (List Int)) (S : Int → Prop), (∀ r ∈ fo, ∀ c ∈ r, S c) → (∀ c ∈ cs, S c) → ∀ r ∈ cs.foldl (fun fo c => fo ++ fo.map fun r => r ++ [c]) fo, ∀ c ∈ r, S c := by
    intro cs
    induction cs with
    | nil => intro fo S h1 h2; exact h1
    | cons x cs ih =>
      intro fo S h1 h2
      refine ih _ S (fun r hr c hc => ?_) fun c hc => h2 c (List.mem_cons_of_mem _ hc)
      rcases List.mem_append.mp hr with hr | hr
      · exact h1 r hr c hc
      · obtain ⟨q, hq, rfl⟩ := List.mem_map.mp hr
        rcases List.mem_append.mp hc with hc | hc
        · exact h1 q hq c hc
        · rw [List.mem_singleton.mp hc]; exact h2 x List.mem_cons_self
  intro cs r hr c hc
  exact h cs [[]] (fun c => c ∈ cs) (fun r hr => by simp at hr; simp [hr]) (fun c hc => hc) r hr c hc
theorem lSet_len (m : Int) : (lSet m).length ≤ 12 := Nat.le_trans (List.length_filter_le ..) (by unfold idxs; simp)
section
variable {P : Program} {w : World} {K : PySem.W.Frag} {mg : Str → Option Value} {base : Heap} {f : Addr} {fd : FuncData}
theorem ok_power (F : Fun K "_law_power" "_law_power" s_law_power f fd) : FnOk P w K mg base CX0 1 f fd ["_law_number"] (SpP 1 R_power K) := by
  refine fn_P F sc_law_power rfl (fun ds r h => ?_) fun cdv A outer s H E ds r hr h => ?_
  · obtain ⟨k, rfl, _⟩ := h; rfl
  · obtain ⟨k, rfl, h0, h1, rfl⟩ := h
    have nd := sc_law_power.nd
    obtain ⟨n, rfl⟩ := Int.eq_ofNat_of_zero_le h0
    have hn : n < 13 := by omega
    refine ss_ret (ev_ix (d := .int (lPow ((n : Nat) : Int))) (ev_lst (ea_cons ev_i (ea_cons ev_i (ea_cons ev_i (ea_cons ev_i (ea_cons ev_i (ea_cons ev_i (ea_cons ev_i (ea_cons ev_i (ea_cons ev_i (ea_cons ev_i (ea_cons ev_i (ea_cons ev_i (ea_cons ev_i ea_nil)))))))))))))) (ev_n 0 rfl) rfl ?_) ⟨_, .inl rfl, rfl⟩
    match n, hn with
    | 0, _ => rfl
    | 1, _ => rfl
    | 2, _ => rfl
    | 3, _ => rfl
    | 4, _ => rfl
    | 5, _ => rfl
    | 6, _ => rfl
    | 7, _ => rfl
    | 8, _ => rfl
    | 9, _ => rfl
    | 10, _ => rfl
    | 11, _ => rfl
    | 12, _ => rfl
theorem ok_bits (F : Fun K "_law_bits" "_law_bits" s_law_bits f fd) (T : Bt mg) (Cp : Cal P w K mg base 1 "_law_power" (SpP 1 R_power K)) : FnOk P w K mg base CX0 2 f fd ["_law_contracts"] (SpP 1 R_bits K) := by
  refine fn_P F sc_law_bits rfl (fun ds r h => ?_) fun cdv A outer s H E ds r hr h => ?_
  · obtain ⟨d, cs, rfl, _⟩ := h; rfl
  · obtain ⟨d, cs, rfl, hd, hc, rfl⟩ := h
    have nd := sc_law_bits.nd
    refine ss_ret (ev_sum (ns := cs.map lPow) (ev_lc (xs := cs) (enc := .int) (fun _ => true) (fun c => .int (lPow c)) [("_law_contract", 1)] nd (ep_sq (ev_n 0 rfl) hd.2 hd.1) (fun x hx => ⟨_, fun s H C cl fp => (eg_n 1 nd), fun s H C cl fp => ets_nil, fun _ => ⟨_, fun s H C cl fp => (ev_call Cp hr (ea_cons (ev_n 1 rfl) ea_nil) ⟨x, rfl, (hc x hx).1, (hc x hx).2, rfl⟩), rfl, rfl⟩⟩)) rfl ?_ T.sum) ⟨_, .inl rfl, rfl⟩
    rw [List.filter_eq_self.mpr (fun _ _ => rfl), List.map_map]; rfl
theorem lPow_pos (k : Int) (h : k ≤ 20) : 0 < lPow k ∧ lPow k < 1073741824 := by
  unfold lPow
  have h2 : k.toNat ≤ 20 := by omega
  have h1 : (2 : Int) ^ k.toNat = ((2 ^ k.toNat : Nat) : Int) := by simp
  have h3 : 2 ^ k.toNat ≤ 2 ^ 20 := Nat.pow_le_pow_right (by decide) h2
  have h4 : 0 < 2 ^ k.toNat := Nat.pow_pos (by decide)
  rw [h1]
  omega
theorem ok_set (F : Fun K "_law_set" "_law_set" s_law_set f fd) (T : Bt mg) (Cp : Cal P w K mg base 1 "_law_power" (SpP 1 R_power K)) : FnOk P w K mg base CX0 2 f fd ["_law_mask"] (SpP 1 R_set K) := by
  refine fn_P F sc_law_set rfl (fun ds r h => ?_) fun cdv A outer s H E ds r hr h => ?_
  · obtain ⟨m, rfl, _⟩ := h; rfl
  · obtain ⟨m, rfl, rfl⟩ := h
    have nd := sc_law_set.nd
    refine ss_ret (ev_tuple (ev_lc (xs := idxs 12) (enc := .int) (fun n => decide (Builtin.bitAnd (m / lPow n) 1 = 1)) .int [("_law_number", 1)] nd (EvI.pure (ei_idx (n := 12) ev_i rfl (by decide) T.range)) (fun x hx => ⟨_, fun s H C cl fp => (eg_n 1 nd), fun s H C cl fp => (ets_one (et_c (ec_eq (ev_and2 (ev_fdiv (ev_n 0 rfl) (ev_call Cp (by exact hr) (ea_cons (ev_n 1 rfl) ea_nil) ⟨x, rfl, (idxs_mem.mp hx).1, by have := (idxs_mem.mp hx).2; omega, rfl⟩) rfl rfl (lPow_pos x (by have := (idxs_mem.mp hx).2; omega))) ev_i rfl rfl) ev_i (.int _ _)))), fun _ => ⟨_, fun s H C cl fp => (ev_n 1 rfl), rfl, rfl⟩⟩)) T.tuple) ⟨_, .inl rfl, rfl⟩
theorem ok_ltakes (F : Fun K "_law_takes" "_law_takes" s_law_takes f fd) (Cc : Cal P w K mg base 4 "_law_choose" (SpP 3 R_lc K)) : FnOk P w K mg base CX0 5 f fd ["_law_web_here", "_law_house", "_law_offered"] (SpP 3 R_ltakes K) := by
  refine fn_P F sc_law_takes rfl (fun ds r h => ?_) fun cdv A outer s H E ds r hr h => ?_
  · obtain ⟨w, h, o, off, rfl, _⟩ := h; rfl
  · obtain ⟨w, h, o, off, rfl, ho, W, hn, hi, rfl⟩ := h
    have nd := sc_law_takes.nd
    obtain ⟨q, e1, e2, e3⟩ := at_house hi
    refine ss_ret (ev_call Cc hr (ea_cons (ev_ix (ev_n 0 rfl) ev_i rfl rfl) (ea_cons (ev_ix (ev_ix (ev_ix (ev_n 0 rfl) ev_i rfl rfl) (ev_n 1 rfl) rfl e1) ev_i rfl rfl) (ea_cons (ev_n 2 rfl) ea_nil))) ⟨_, _, _, _, rfl, ho, W.ch q e3, hn q e3, rfl⟩) ⟨_, .inl rfl, ?_⟩
    show RK.v _ = RK.v _
    unfold lTakes
    rw [e2]
theorem ok_within (F : Fun K "_law_within" "_law_within" s_law_within f fd) (T : Bt mg) : FnOk P w K mg base CX0 1 f fd ["_law_every"] (SpP 1 R_within K) := by
  refine fn_P F sc_law_within rfl (fun ds r h => ?_) fun cdv A outer s H E ds r hr h => ?_
  · obtain ⟨e, rfl, _⟩ := h; rfl
  · obtain ⟨e, rfl, h0, h1, rfl⟩ := h
    have nd := sc_law_within.nd
    exact ss_ret (ev_lc (xs := idxs (e + 1).toNat) (enc := .int) (fun m => decide (Builtin.bitAnd m e = m)) .int [("_law_mask", 1)] nd (EvI.pure (ei_idx (n := (e + 1).toNat) (ev_add (ev_n 0 rfl) ev_i rfl rfl) (by show D.int _ = D.int _; rw [Int.toNat_of_nonneg (by omega)]) (by omega) T.range)) (fun x hx => ⟨_, fun s H C cl fp => (eg_n 1 nd), fun s H C cl fp => (ets_one (et_c (ec_eq (ev_and2 (ev_n 1 rfl) (ev_n 0 rfl) rfl rfl) (ev_n 1 rfl) (.int _ _)))), fun _ => ⟨_, fun s H C cl fp => (ev_n 1 rfl), rfl, rfl⟩⟩)) ⟨_, .inl rfl, rfl⟩
theorem all_drop {α : Type} {p : α → Bool} {xs : List α} {i : Nat} {x : α} (h : xs[i]? = some x) : (xs.drop i).all p = (p x && (xs.drop (i + 1)).all p) := by rw [drop_cons h, List.all_cons]
theorem any_drop {α : Type} {p : α → Bool} {xs : List α} {i : Nat} {x : α} (h : xs[i]? = some x) : (xs.drop i).any p = (p x || (xs.drop (i + 1)).any p) := by rw [drop_cons h, List.any_cons]
theorem ok_kept (F : Fun K "_law_is_kept" "_law_is_kept" s_law_is_kept f fd) : FnOk P w K mg base CX0 1 f fd ["_law_plan_here", "_law_network"] (SpP 2 R_kept K) := by
  refine fn_P F sc_law_is_kept rfl (fun ds r h => ?_) fun cdv A outer s H E ds r hr h => ?_
  · obtain ⟨pl, net, every, rfl, _⟩ := h; rfl
  · obtain ⟨pl, net, every, rfl, PO, h0, h1, rfl⟩ := h
    have nd := sc_law_is_kept.nd
    refine ss_for (xs := pl) (enc := ePE) (fun _ : Unit => [.val (.lst (pl.map ePE)), .val (.int net), .no, .no, .no]) (fun i _ => lKept pl net = (pl.drop i).all fun q => decide (lGet q (Builtin.bitAnd net (Builtin.bitOr q.1 q.2.1)) = Builtin.bitAnd net (Builtin.bitOr q.1 q.2.1))) () .never (ei_sq (ev_n 0 rfl) rfl) rfl (by repeat (first | exact le_nil | refine le_no ?_ | refine le_eq ?_)) (fun i q s hx hJ => ⟨_, _, (eg_t (egs_n 2 nd (egs_n 3 nd (egs_n 4 nd egs_nil)))), ?_⟩) (fun s hJ => ?_)
    · rw [all_drop hx] at hJ
      obtain ⟨v, hv⟩ := PO q (mem_of_get hx) net h0 h1
      have hg : lGet q (Builtin.bitAnd net (Builtin.bitOr q.1 q.2.1)) = v := by unfold lGet; rw [hv]; rfl
      rw [hg] at hJ
      refine ss_when (et_c (ec_ne (ev_dget (v := v) (hu_of hr) (ev_n 4 rfl) (ev_and2 (ev_n 1 rfl) (ev_or2 (ev_n 2 rfl) (ev_n 3 rfl) rfl rfl) rfl rfl) rfl rfl (by exact hv)) (ev_and2 (ev_n 1 rfl) (ev_or2 (ev_n 2 rfl) (ev_n 3 rfl) rfl rfl) rfl rfl) (.int _ _))) (fun ht => ?_) (fun ht => ?_)
      · refine ss_ret ev_bl ⟨_, .inl rfl, ?_⟩
        have ht' : decide (v = Builtin.bitAnd net (Builtin.bitOr q.1 q.2.1)) = false := by simpa using ht
        show RK.v (.bl false) = RK.v (.bl (lKept pl net))
        rw [hJ, ht']; rfl
      · have ht' : decide (v = Builtin.bitAnd net (Builtin.bitOr q.1 q.2.1)) = true := by simpa using ht
        refine ss_nil ⟨(), ?_, by repeat (first | exact le_nil | refine le_no ?_ | refine le_eq ?_)⟩
        rw [hJ, ht', Bool.true_and]
    · refine ss_ret ev_bl ⟨_, .inl rfl, ?_⟩
      rw [drop_all] at hJ
      show RK.v (.bl true) = RK.v (.bl (lKept pl net))
      rw [hJ]; rfl
theorem ok_gains (F : Fun K "_law_gains" "_law_gains" s_law_gains f fd) : FnOk P w K mg base CX0 1 f fd ["_law_plan_here", "_law_network", "_law_lot"] (SpP 3 R_gains K) := by
  refine fn_P F sc_law_gains rfl (fun ds r h => ?_) fun cdv A outer s H E ds r hr h => ?_
  · obtain ⟨pl, net, lot, every, rfl, _⟩ := h; rfl
  · obtain ⟨pl, net, lot, every, rfl, PO, h0, h1, rfl⟩ := h
    have nd := sc_law_gains.nd
    refine ss_for (xs := pl) (enc := ePE) (fun _ : Unit => [.val (.lst (pl.map ePE)), .val (.int net), .val (.int lot), .no, .no, .no, .no]) (fun i _ => lGains pl net lot = (pl.drop i).all (lGainOk net lot)) () .never (ei_sq (ev_n 0 rfl) rfl) rfl (by repeat (first | exact le_nil | refine le_no ?_ | refine le_eq ?_)) (fun i q s hx hJ => ⟨_, _, (eg_t (egs_n 3 nd (egs_n 4 nd (egs_n 5 nd egs_nil)))), ?_⟩) (fun s hJ => ?_)
    · rw [all_drop hx] at hJ
      obtain ⟨v, hv⟩ := PO q (mem_of_get hx) (Builtin.bitOr net lot) h0 h1
      have hg : lGainOk net lot q = !(decide (0 < Builtin.bitAnd lot (Builtin.bitOr q.1 q.2.1)) && !decide (Builtin.bitAnd v (Builtin.bitAnd lot (Builtin.bitOr q.1 q.2.1)) = Builtin.bitAnd lot (Builtin.bitOr q.1 q.2.1))) := by
        unfold lGainOk lGet
        rw [hv]; rfl
      rw [hg] at hJ
      refine ss_set 6 nd (ev_and2 (ev_n 2 rfl) (ev_or2 (ev_n 3 rfl) (ev_n 4 rfl) rfl rfl) rfl rfl) ?_
      refine ss_when (et_w (ew_and (et_c (ec_gt (ev_n 6 rfl) ev_i rfl rfl)) (fun _ => (ew_and1 (et_c (ec_ne (ev_and2 (ev_dget (v := v) (hu_of hr) (ev_n 5 rfl) (ev_and2 (ev_or2 (ev_n 1 rfl) (ev_n 2 rfl) rfl rfl) (ev_or2 (ev_n 3 rfl) (ev_n 4 rfl) rfl rfl) rfl rfl) rfl rfl (by exact hv)) (ev_n 6 rfl) rfl rfl) (ev_n 6 rfl) (.int _ _))))))) (fun ht => ?_) (fun ht => ?_)
      · refine ss_ret ev_bl ⟨_, .inl rfl, ?_⟩
        show RK.v (.bl false) = RK.v (.bl (lGains pl net lot))
        rw [hJ, ht]; rfl
      · refine ss_nil ⟨(), ?_, by repeat (first | exact le_nil | refine le_no ?_ | refine le_eq ?_)⟩
        rw [hJ, ht]; rfl
    · refine ss_ret ev_bl ⟨_, .inl rfl, ?_⟩
      rw [drop_all] at hJ
      show RK.v (.bl true) = RK.v (.bl (lGains pl net lot))
      rw [hJ]; rfl
theorem ok_hasgain (F : Fun K "_law_has_gain" "_law_has_gain" s_law_has_gain f fd) (Cw : Cal P w K mg base 1 "_law_within" (SpP 1 R_within K)) (Cg : Cal P w K mg base 1 "_law_gains" (SpP 3 R_gains K)) : FnOk P w K mg base CX0 2 f fd ["_law_plan_here", "_law_network", "_law_every"] (SpP 3 R_hasgain K) := by
  refine fn_P F sc_law_has_gain rfl (fun ds r h => ?_) fun cdv A outer s H E ds r hr h => ?_
  · obtain ⟨pl, net, every, rfl, _⟩ := h; rfl
  · obtain ⟨pl, net, every, rfl, PO, h0, h1, h2, h3, rfl⟩ := h
    have nd := sc_law_has_gain.nd
    refine ss_for (xs := lWithin (every - net)) (enc := .int) (fun _ : Unit => [.val (.lst (pl.map ePE)), .val (.int net), .val (.int every), .no]) (fun i _ => lHasGain pl net every = ((lWithin (every - net)).drop i).any fun lot => decide (0 < lot) && lGains pl net lot) () .never (ei_sq (ev_call Cw hr (ea_cons (ev_sub (ev_n 2 rfl) (ev_n 1 rfl) rfl rfl) ea_nil) ⟨_, rfl, by omega, by omega, rfl⟩) rfl) rfl (by repeat (first | exact le_nil | refine le_no ?_ | refine le_eq ?_)) (fun i x s hx hJ => ⟨_, _, (eg_n 3 nd), ?_⟩) (fun s hJ => ?_)
    · rw [any_drop hx] at hJ
      have hb := h3 x (mem_of_get hx)
      refine ss_when (et_w (ew_and (et_c (ec_gt (ev_n 3 rfl) ev_i rfl rfl)) (fun _ => (ew_and1 (et_v (ev_call Cg hr (ea_cons (ev_n 0 rfl) (ea_cons (ev_n 1 rfl) (ea_cons (ev_n 3 rfl) ea_nil))) ⟨pl, net, x, every, rfl, PO, hb.1, hb.2, rfl⟩) rfl))))) (fun ht => ?_) (fun ht => ?_)
      · refine ss_ret ev_bl ⟨_, .inl rfl, ?_⟩
        show RK.v (.bl true) = RK.v (.bl (lHasGain pl net every))
        rw [hJ, ht]; rfl
      · refine ss_nil ⟨(), ?_, by repeat (first | exact le_nil | refine le_no ?_ | refine le_eq ?_)⟩
        rw [hJ, ht]; rfl
    · refine ss_ret ev_bl ⟨_, .inl rfl, ?_⟩
      rw [drop_all] at hJ
      show RK.v (.bl false) = RK.v (.bl (lHasGain pl net every))
      rw [hJ]; rfl
theorem ok_atrest (F : Fun K "_law_at_rest" "_law_at_rest" s_law_at_rest f fd) (T : Bt mg) (Ck : Cal P w K mg base 1 "_law_is_kept" (SpP 2 R_kept K)) (Ch : Cal P w K mg base 2 "_law_has_gain" (SpP 3 R_hasgain K)) : FnOk P w K mg base CX0 3 f fd ["_law_plan_here", "_law_every"] (SpP 2 R_atrest K) := by
  refine fn_P F sc_law_at_rest rfl (fun ds r h => ?_) fun cdv A outer s H E ds r hr h => ?_
  · obtain ⟨pl, every, rfl, _⟩ := h; rfl
  · obtain ⟨pl, every, rfl, PO, h0, h2, h3, rfl⟩ := h
    have nd := sc_law_at_rest.nd
    refine ss_setN 2 nd (ev_lst ea_nil) ?_
    refine ss_forF (xs := idxs (every + 1).toNat) (enc := .int) (fun fo : List Int => [.val (.lst (pl.map ePE)), .val (.int every), .own true (eL fo), .no]) (fun fo net => if (lKept pl net && !lHasGain pl net every) = true then fo ++ [net] else fo) (fun i fo => fo.length ≤ i) [] .never (ei_idx (n := (every + 1).toNat) (ev_add (ev_n 1 rfl) ev_i rfl rfl) (by show D.int _ = D.int _; rw [Int.toNat_of_nonneg (by omega)]) (by omega) T.range) (Nat.le_refl _) (by repeat (first | exact le_nil | refine le_no ?_ | refine le_eq ?_)) (fun i x fo hx hJ => ⟨?_, _, _, (eg_n 3 nd), ?_⟩) (fun hJ => ?_)
    · split
      · rw [List.length_append, List.length_singleton]; omega
      · omega
    · obtain ⟨ex, hi⟩ := idxs_get hx
      have hx0 : 0 ≤ x := by omega
      have hx1 : x ≤ every := by omega
      refine ss_when (et_w (ew_and (et_v (ev_call Ck (hr.mono (by decide)) (ea_cons (ev_n 0 rfl) (ea_cons (ev_n 3 rfl) ea_nil)) ⟨pl, x, every, rfl, PO, hx0, hx1, rfl⟩) rfl) (fun _ => (ew_and1 (et_not (et_v (ev_call Ch hr (ea_cons (ev_n 0 rfl) (ea_cons (ev_n 3 rfl) (ea_cons (ev_n 1 rfl) ea_nil))) ⟨pl, x, every, rfl, PO, hx0, hx1, h2, h3 x hx0 hx1, rfl⟩) rfl)))))) (fun ht => ?_) (fun ht => ?_)
      · refine ss_app 2 (ev_n 3 rfl) rfl ?_ (ss_nil (ss_nil ?_))
        · rw [List.length_map]; exact szl (by omega)
        · show Le [_, _, .own true (eL (if (lKept pl x && !lHasGain pl x every) = true then fo ++ [x] else fo)), _] _
          rw [if_pos ht, eL, List.map_append]
          repeat (first | exact le_nil | refine le_no ?_ | refine le_eq ?_)
      · refine ss_nil ?_
        show Le [_, _, .own true (eL (if (lKept pl x && !lHasGain pl x every) = true then fo ++ [x] else fo)), _] _
        rw [if_neg (by rw [ht]; exact Bool.false_ne_true)]
        repeat (first | exact le_nil | refine le_no ?_ | refine le_eq ?_)
    · refine ss_retO 2 rfl (.inl ?_)
      show RK.n _ = RK.n _
      rw [← filter_foldl]; rfl
end
end N50
/-! text L6 -/
set_option maxHeartbeats 4000000
namespace N50
open PySem PySem.Spec PyProof.Rows L2
/-- a maker or sides as the law has just made it -/
def ePlN : Pl → D
  | .maker r b s => .tup [.str "maker", .int r, .tupN (b.map .int), .tupN (s.map .int)]
  | .sides r b q s => .tup [.str "sides", .int r, .tupN (b.map .int), .int q, .tupN (s.map .int)]
  | c => ePl c
def isMS : Pl → Prop | .maker _ _ _ => True | .sides _ _ _ _ => True | _ => False
theorem wk_pl (c : Pl) : Wk (ePlN c) (ePl c) := by
  cases c with
  | maker r b s => exact .tup (.cons .rfl' (.cons .rfl' (.cons .n (.cons .n .nil))))
  | sides r b q s => exact .tup (.cons .rfl' (.cons .rfl' (.cons .n (.cons .rfl' (.cons .n .nil)))))
  | _ => exact .rfl'
theorem mem_upTo {α : Type} {xs : List α} {n : Int} {x : α} (h : x ∈ upTo xs n) : x ∈ xs := by unfold upTo at h; exact List.mem_of_mem_take h
theorem lms_mem {c : Pl} (h : isMS c) {off : List Int} {x : Int} (hx : x ∈ lChooseP [] c off) : x ∈ (lSidesOf c).1 ∨ x ∈ (lSidesOf c).2 := by
  cases c with
  | maker r b s =>
    rcases List.mem_append.mp (isort_mem.mp hx) with q | q
    · exact .inl (offer_mem (mem_upTo q))
    · exact .inr (offer_mem (mem_upTo q))
  | sides r b q s =>
    rcases List.mem_append.mp (isort_mem.mp hx) with q | q
    · exact .inl (offer_mem (mem_upTo q))
    · exact .inr (offer_mem (mem_upTo q))
  | _ => exact h.elim
theorem idxs_len (n : Nat) : (idxs n).length = n := by unfold idxs; simp
def R_table : List D → RK → Prop := fun ds r => ∃ c : Pl, ds = [ePlN c] ∧ isMS c ∧ (∃ n, PlOk n c) ∧ (lSidesOf c).1.length + (lSidesOf c).2.length ≤ 12 ∧ r = .v (ePl (.table (lTable c)))
theorem PlOk_ms {c : Pl} (h : isMS c) (hl : (lSidesOf c).1.length + (lSidesOf c).2.length ≤ 12) (hb : ∀ x ∈ (lSidesOf c).1, 0 ≤ x) (hs : ∀ x ∈ (lSidesOf c).2, 0 ≤ x) : True := trivial
section
variable {P : Program} {w : World} {K : PySem.W.Frag} {mg : Str → Option Value} {base : Heap} {f : Addr} {fd : FuncData}
theorem ok_plan (F : Fun K "_law_plan" "_law_plan" s_law_plan f fd) (T : Bt mg) (Cb : Cal P w K mg base 2 "_law_bits" (SpP 1 R_bits K)) (Cs : Cal P w K mg base 1 "_law_subsets" (SpP 1 R_subsets K)) (Ce : Cal P w K mg base 2 "_law_set" (SpP 1 R_set K)) (Ct : Cal P w K mg base 5 "_law_takes" (SpP 3 R_ltakes K)) : FnOk P w K mg base CX0 6 f fd ["_law_web_here"] (SpP 1 R_plan K) := by
  refine fn_P F sc_law_plan rfl (fun ds r h => ?_) fun cdv A outer s H E ds r hr h => ?_
  · obtain ⟨w, rfl, _⟩ := h; rfl
  · obtain ⟨w, rfl, W, rfl⟩ := h
    have nd := sc_law_plan.nd
    have cix : ∀ c ∈ idxs w.cs.length, CIx w c := fun c hc => idxs_mem.mp hc
    have hcs := W.cs
    have hhs := W.hs
    refine ss_setN 1 nd (ev_lst ea_nil) ?_
    refine ss_forF (xs := idxs w.hs.length) (enc := .int) (fun pl : List PlanE => [.val (eWeb w), .own true (.lst (pl.map ePE)), .no, .no, .no, .no, .no, .no]) (lPlanStep w) (fun i pl => pl.length ≤ i) [] .never (ei_idx (n := w.hs.length) (ev_len (ev_ix (ev_n 0 rfl) ev_i rfl rfl) T.len) (lenM eHs w.hs) (by omega) T.range) (Nat.le_refl _) (by repeat (first | exact le_nil | refine le_no ?_ | refine le_eq ?_)) (fun i x pl hx hJ => ⟨?_, _, _, (eg_n 2 nd), ?_⟩) (fun hJ => ?_)
    · unfold lPlanStep
      split
      · rw [List.length_append, List.length_singleton]; omega
      · omega
    · have hi : HIx w x := idxs_mem.mp (mem_of_get hx)
      have hil := lt_of_get hx
      have hbm : ∀ c ∈ lBuys w x, 0 ≤ c ∧ c ≤ 12 := fun c hc => by have := cix c (List.mem_filter.mp hc).1; exact ⟨this.1, by have := this.2; omega⟩
      have hsm : ∀ c ∈ lSells w x, 0 ≤ c ∧ c ≤ 12 := fun c hc => by have := cix c (List.mem_filter.mp hc).1; exact ⟨this.1, by have := this.2; omega⟩
      refine ss_set 3 nd (ev_call Cb (hr.mono (by decide)) (ea_cons (ev_lc (xs := idxs w.cs.length) (enc := .int) (fun c => decide (buyOf w c = x)) .int [("_law_number", 7)] nd (EvI.pure (ei_idx (n := w.cs.length) (ev_len (ev_ix (ev_n 0 rfl) ev_i rfl rfl) T.len) (lenM eCon w.cs) (by omega) T.range)) (fun c hc => by
        obtain ⟨k, e1, e2, e3, e4, e5⟩ := at_con (cix c hc)
        exact ⟨_, fun s H C cl fp => (eg_n 7 nd), fun s H C cl fp => (ets_one (et_c (ec_eq (ev_ix (d := .int (buyOf w c)) (ev_ix (d := eCon k) (ev_ix (ev_n 0 rfl) ev_i rfl rfl) (ev_n 7 rfl) rfl (by exact e1)) ev_i rfl (by rw [e3]; rfl)) (ev_n 2 rfl) (.int _ _)))), fun _ => ⟨_, fun s H C cl fp => (ev_n 7 rfl), rfl, rfl⟩⟩)) ea_nil) ⟨_, lBuys w x, rfl, sqL _, hbm, rfl⟩) ?_
      refine ss_set 4 nd (ev_call Cb (hr.mono (by decide)) (ea_cons (ev_lc (xs := idxs w.cs.length) (enc := .int) (fun c => decide (selOf w c = x)) .int [("_law_number", 7)] nd (EvI.pure (ei_idx (n := w.cs.length) (ev_len (ev_ix (ev_n 0 rfl) ev_i rfl rfl) T.len) (lenM eCon w.cs) (by omega) T.range)) (fun c hc => by
        obtain ⟨k, e1, e2, e3, e4, e5⟩ := at_con (cix c hc)
        exact ⟨_, fun s H C cl fp => (eg_n 7 nd), fun s H C cl fp => (ets_one (et_c (ec_eq (ev_ix (d := .int (selOf w c)) (ev_ix (d := eCon k) (ev_ix (ev_n 0 rfl) ev_i rfl rfl) (ev_n 7 rfl) rfl (by exact e1)) ev_i rfl (by rw [e2]; rfl)) (ev_n 2 rfl) (.int _ _)))), fun _ => ⟨_, fun s H C cl fp => (ev_n 7 rfl), rfl, rfl⟩⟩)) ea_nil) ⟨_, lSells w x, rfl, sqL _, hsm, rfl⟩) ?_
      refine ss_setN 5 nd ev_dnew ?_
      refine ss_forF (xs := lSubsets (lSet (lOwn w x))) (enc := eT) (fun kvs : List (Int × Int) => [.val (eWeb w), .own true (.lst (pl.map ePE)), .val (.int x), .val (.int (lBits (lBuys w x))), .val (.int (lBits (lSells w x))), .own true (.dic kvs), .no, .no]) (fun kvs off => putD kvs (lBits off) (lBits (lTakes w x off))) (fun j kvs => kvs.length ≤ j) [] .never (ei_sq (ev_call Cs (hr.mono (by decide)) (ea_cons (ev_call Ce (hr.mono (by decide)) (ea_cons (ev_or2 (ev_n 3 rfl) (ev_n 4 rfl) rfl rfl) ea_nil) ⟨lOwn w x, rfl, rfl⟩) ea_nil) ⟨_, lSet (lOwn w x), rfl, sqT _, lSet_len _, rfl⟩) rfl) (Nat.le_refl _) (by repeat (first | exact le_nil | refine le_no ?_ | refine le_eq ?_)) (fun j off kvs ho hK => ⟨?_, _, _, (eg_n 6 nd), ?_⟩) (fun hK => ?_)
      · exact Nat.le_trans (putD_len _ _ _) (by omega)
      · have hm := subs_sub (lSubsets_mem (mem_of_get ho))
        have hjl := lt_of_get ho
        have hsl := (subs_len (lSet (lOwn w x))).1
        have hp : 2 ^ (lSet (lOwn w x)).length ≤ 2 ^ 12 := Nat.pow_le_pow_right (by decide) (lSet_len _)
        have hlen : (lSubsets (lSet (lOwn w x))).length = (subs (lSet (lOwn w x))).length := List.length_mergeSort _
        refine ss_dput 5 (v := lBits (lTakes w x off)) (n := lBits off) (hu_of hr) (ev_call Cb (hr.mono (by decide)) (ea_cons (ev_call Ct hr (ea_cons (ev_n 0 rfl) (ea_cons (ev_n 2 rfl) (ea_cons (ev_n 6 rfl) ea_nil))) ⟨w, x, _, off, rfl, sqT _, W.W, W.nn, hi, rfl⟩) ea_nil) ⟨_, lTakes w x off, rfl, sqT _, W.tk x hi off, rfl⟩) rfl (ev_call Cb (hr.mono (by decide)) (ea_cons (ev_n 6 rfl) ea_nil) ⟨_, off, rfl, sqT _, fun c hc => by have := lSet_lt (hm c hc); omega, rfl⟩) rfl rfl (szl (by omega)) (ss_nil ?_)
        repeat (first | exact le_nil | refine le_no ?_ | refine le_eq ?_)
      · show SS _ _ _ [_, _, _, _, _, .own true (.dic (lDict w x (lOwn w x))), _, _]
        refine ss_when (et_c (ec_gt (j := 0) (i := lOwn w x) (ev_or2 (ev_n 3 rfl) (ev_n 4 rfl) rfl rfl) ev_i rfl rfl)) (fun ht => ?_) (fun ht => ?_)
        · have e : lPlanStep w pl x = pl ++ [(lBits (lBuys w x), lBits (lSells w x), lDict w x (lOwn w x))] := if_pos (of_decide_eq_true ht)
          refine ss_fz 5 rfl (ss_app 1 (ev_tup (ea_cons (ev_n 3 rfl) (ea_cons (ev_n 4 rfl) (ea_cons (ev_n 5 rfl) ea_nil)))) rfl ?_ (ss_nil (ss_nil ?_)))
          · rw [List.length_map]; exact szl (by rw [idxs_len] at hil; omega)
          · rw [e]
            show Le [_, .own true (.lst ((pl ++ [(lBits (lBuys w x), lBits (lSells w x), lDict w x (lOwn w x))]).map ePE)), _, _, _, _, _, _] _
            rw [List.map_append]
            repeat (first | exact le_nil | refine le_no ?_ | refine le_eq ?_)
        · have e : lPlanStep w pl x = pl := if_neg (of_decide_eq_false ht)
          refine ss_nil ?_
          rw [e]
          repeat (first | exact le_nil | refine le_no ?_ | refine le_eq ?_)
    · exact ss_retO 1 rfl (.inl rfl)
theorem eqv_tri (p q : Int × Int × List Int) : PyData.eqv (eTri p).pd (eTri q).pd = decide (p = q) := by
  have h := eqv_eT p.2.2 q.2.2
  rw [pd_eT, pd_eT] at h
  rw [pd_tri, pd_tri]
  obtain ⟨a, b, c⟩ := p
  obtain ⟨a', b', c'⟩ := q
  simp only [PyData.eqv, PyData.eqvAll] at h ⊢
  rw [h]
  simp [Prod.ext_iff, Bool.beq_eq_decide_eq]
theorem in_tri (q : Int × Int × List Int) : ∀ rows : List (Int × Int × List Int), (D.pdL (rows.map eTri)).any (fun z => PyData.eqv z (eTri q).pd) = decide (q ∈ rows)
  | [] => by simp [D.pdL]
  | p :: rows => by
    rw [List.map_cons, D.pdL, List.any_cons, in_tri q rows, eqv_tri]
    by_cases h : p = q
    · subst h; simp
    · have : ¬ q = p := fun e => h e.symm
      simp [h, this]
theorem sh_ltri (n : Nat) : ∀ rows : List (Int × Int × List Int), D.shL (n + 2) (rows.map eTri) = true
  | [] => by simp [D.shL]
  | p :: rows => by rw [List.map_cons, D.shL, sh_tri, sh_ltri n rows]; rfl
set_option maxHeartbeats 8000000 in
theorem ok_table (F : Fun K "_law_table" "_law_table" s_law_table f fd) (T : Bt mg) (Cc : Cal P w K mg base 2 "_law_choose" (SpP 3 R_lp K)) (Cs : Cal P w K mg base 1 "_law_subsets" (SpP 1 R_subsets K)) : FnOk P w K mg base CX0 3 f fd ["_law_choice_here"] (SpP 1 R_table K) := by
  refine fn_P F sc_law_table rfl (fun ds r h => ?_) fun cdv A outer s H E ds r hr h => ?_
  · obtain ⟨c, rfl, _⟩ := h; rfl
  · obtain ⟨c, rfl, hms, ⟨n0, hpl0⟩, hl, rfl⟩ := h
    have nd := sc_law_table.nd
    have hpl : ∃ n, PlOk n c ∧ ∀ room cost b s, c = .trader room cost b s → n = ([] : List Con).length := ⟨n0, hpl0, fun room cost b s e => by subst e; exact hms.elim⟩
    have hnn : NN c := by cases c <;> first | trivial | exact hms.elim
    have hu65 : (xOf P w K mg base ["_law_choice_here", "_law_sides", "_law_rows", "_law_offered", "_law_row", "_law_places", "_law_contract"] "_law_table" (defScope s_law_table) f cdv A outer s H E).A.units + 65 < cLine := by have := hr.un; omega
    -- behind the two sides
    have go : SS (xOf P w K mg base ["_law_choice_here", "_law_sides", "_law_rows", "_law_offered", "_law_row", "_law_places", "_law_contract"] "_law_table" (defScope s_law_table) f cdv A outer s H E) ((defBody s_law_table).drop 2) (PoP (.v (ePl (.table (lTable c))))) [.val (ePlN c), .val (.lst [.tupN ((lSidesOf c).1.map .int), .tupN ((lSidesOf c).2.map .int)]), .no, .no, .no, .no, .no] := by
      refine ss_setN 2 nd (ev_lst ea_nil) ?_
      refine ss_forF (xs := lSubsets (isort ((lSidesOf c).1 ++ (lSidesOf c).2))) (enc := eT) (fun rows : List (Int × Int × List Int) => [.val (ePlN c), .val (.lst [.tupN ((lSidesOf c).1.map .int), .tupN ((lSidesOf c).2.map .int)]), .own true (.lst (rows.map eTri)), .no, .no, .no, .no]) (lRowStep c) (fun i rows => rows.length ≤ i) [] .never (ei_sq (ev_call Cs (hr.mono (by decide)) (ea_cons (ev_sortedT (ns := (lSidesOf c).1 ++ (lSidesOf c).2) hr.units (ev_catT (Ev.wk (ev_ix (ev_n 1 rfl) ev_i rfl rfl) .n) (Ev.wk (ev_ix (ev_n 1 rfl) ev_i rfl rfl) .n) rfl rfl ?_) rfl ?_ T.sorted) ea_nil) ⟨_, isort ((lSidesOf c).1 ++ (lSidesOf c).2), rfl, sqL _, ?_, rfl⟩) rfl) (Nat.le_refl _) (by repeat (first | exact le_nil | refine le_no ?_ | refine le_eq ?_)) (fun i off rows hx hJ => ⟨?_, _, _, (eg_n 3 nd), ?_⟩) (fun hJ => ?_)
      · rw [List.length_map, List.length_map]; exact szc (by omega)
      · rw [List.map_append]
      · rw [(isort_perm _).length_eq, List.length_append]; exact hl
      · unfold lRowStep
        split
        · rw [List.length_append, List.length_singleton]; omega
        · omega
      · have hil := lt_of_get hx
        have hlen : (lSubsets (isort ((lSidesOf c).1 ++ (lSidesOf c).2))).length = (subs (isort ((lSidesOf c).1 ++ (lSidesOf c).2))).length := List.length_mergeSort _
        have hsl := (subs_len (isort ((lSidesOf c).1 ++ (lSidesOf c).2))).1
        have hi12 : (isort ((lSidesOf c).1 ++ (lSidesOf c).2)).length ≤ 12 := by rw [(isort_perm _).length_eq, List.length_append]; exact hl
        have hp : 2 ^ (isort ((lSidesOf c).1 ++ (lSidesOf c).2)).length ≤ 2 ^ 12 := Nat.pow_le_pow_right (by decide) hi12
        refine ss_set 4 nd (ev_call Cc hr (ea_cons (ev_tup ea_nil) (ea_cons (Ev.wk (ev_n 0 rfl) (wk_pl c)) (ea_cons (ev_n 3 rfl) ea_nil))) ⟨[], c, _, off, rfl, sqT off, hpl, hnn, rfl⟩) ?_
        have hrow : ∀ x ∈ lChooseP [] c off, x ∈ (lSidesOf c).1 ∨ x ∈ (lSidesOf c).2 := fun x hx => lms_mem hms hx
        have etri : lRowOf c off = (-(((lChooseP [] c off).length : Nat) : Int), ((lChooseP [] c off).map (lPlace (lSidesOf c))).sum, lChooseP [] c off) := rfl
        have estep : lRowStep c rows off = if (decide (0 < (((lChooseP [] c off).length : Nat) : Int)) && !decide (lRowOf c off ∈ rows)) = true then rows ++ [lRowOf c off] else rows := rfl
        generalize lChooseP [] c off = row at hrow etri estep ⊢
        refine ss_set 5 nd (ev_sum (ns := row.map (lPlace (lSidesOf c))) (ev_lc (xs := row) (enc := .int) (fun _ => true) (fun x => .int (lPlace (lSidesOf c) x)) [("_law_contract", 6)] nd (ep_sq (ev_n 4 rfl) rfl) (fun x hx => ⟨_, fun s H C cl fp => (eg_n 6 nd), fun s H C cl fp => ets_nil, fun _ => ?_⟩)) rfl ?_ T.sum) ?_
        · by_cases hm : x ∈ (lSidesOf c).2
          · refine ⟨_, fun s H C cl fp => ev_indexN (ns := (lSidesOf c).2) (ev_ix (ev_n 1 rfl) (ev_intB (i := decide (x ∈ (lSidesOf c).2)) (ev_c (ec_in (ns := (lSidesOf c).2) (ev_n 6 rfl) (Ev.wk (ev_ix (ev_n 1 rfl) ev_i rfl rfl) .n) rfl rfl)) rfl T.int) rfl (by rw [decide_eq_true hm]; rfl)) (ev_n 6 rfl) rfl hm, rfl, ?_⟩
            show D.int _ = D.int (lPlace _ _)
            unfold lPlace
            rw [if_pos hm]
          · have hm1 : x ∈ (lSidesOf c).1 := (hrow x hx).resolve_right hm
            refine ⟨_, fun s H C cl fp => ev_indexN (ns := (lSidesOf c).1) (ev_ix (ev_n 1 rfl) (ev_intB (i := decide (x ∈ (lSidesOf c).2)) (ev_c (ec_in (ns := (lSidesOf c).2) (ev_n 6 rfl) (Ev.wk (ev_ix (ev_n 1 rfl) ev_i rfl rfl) .n) rfl rfl)) rfl T.int) rfl (by rw [decide_eq_false hm]; rfl)) (ev_n 6 rfl) rfl hm1, rfl, ?_⟩
            show D.int _ = D.int (lPlace _ _)
            unfold lPlace
            rw [if_neg hm]
        · rw [List.filter_eq_self.mpr (fun _ _ => rfl), List.map_map]; rfl
        · have tri : D.tup [.int (-((row.length : Nat) : Int)), .int (row.map (lPlace (lSidesOf c))).sum, eT row] = eTri (lRowOf c off) := by rw [etri]; rfl
          have evt : ∀ (X : Cx) (h1 : True), True := fun _ _ => trivial
          refine ss_when (EvT.is (et_w (ew_and (et_c (ec_gt (i := ((row.length : Nat) : Int)) (ev_len (ev_n 4 rfl) T.len) ev_i (by exact lenM D.int row) rfl)) (fun _ => (ew_and1 (et_c (ec_notInD (ds := rows.map eTri) hu65 (ev_tup (ea_cons (ev_neg (i := ((row.length : Nat) : Int)) (ev_len (ev_n 4 rfl) T.len) (by exact lenM D.int row)) (ea_cons (ev_n 5 rfl) (ea_cons (ev_n 4 rfl) ea_nil)))) (ev_o 2 rfl) rfl (by show D.sh 50 (D.tup [.int (-((row.length : Nat) : Int)), .int (row.map (lPlace (lSidesOf c))).sum, eT row]) = true; rw [tri]; exact sh_tri 48 _) (by show D.sh 50 (.lst (rows.map eTri)) = true; rw [D.sh]; exact sh_ltri 47 _))))))) (show _ = (decide (0 < ((row.length : Nat) : Int)) && !decide (lRowOf c off ∈ rows)) from ?_)) (fun ht => ?_) (fun ht => ?_)
          · congr 2
            show (D.pdL (rows.map eTri)).any (fun z => PyData.eqv z (D.pd (D.tup [.int (-((row.length : Nat) : Int)), .int (row.map (lPlace (lSidesOf c))).sum, eT row]))) = _
            rw [tri]
            exact in_tri _ _
          · refine ss_app 2 (ev_tup (ea_cons (ev_neg (i := ((row.length : Nat) : Int)) (ev_len (ev_n 4 rfl) T.len) (by exact lenM D.int row)) (ea_cons (ev_n 5 rfl) (ea_cons (ev_n 4 rfl) ea_nil)))) rfl ?_ (ss_nil (ss_nil ?_))
            · rw [List.length_map]; exact szl (by omega)
            · rw [estep, if_pos ht]
              show Le [_, _, .own true (.lst ((rows ++ [lRowOf c off]).map eTri)), _, _, _, _] _
              rw [List.map_append, List.map_singleton, ← tri]
              repeat (first | exact le_nil | refine le_no ?_ | refine le_eq ?_)
          · refine ss_nil ?_
            rw [estep, if_neg (by rw [ht]; exact Bool.false_ne_true)]
            repeat (first | exact le_nil | refine le_no ?_ | refine le_eq ?_)
      · have el : lTable c = (((lSubsets (isort ((lSidesOf c).1 ++ (lSidesOf c).2))).foldl (lRowStep c) []).mergeSort triLe).map fun q => q.2.2 := rfl
        generalize (lSubsets (isort ((lSidesOf c).1 ++ (lSidesOf c).2))).foldl (lRowStep c) [] = rows at el ⊢
        refine ss_fz 2 rfl (ss_ret (ev_tup (ea_cons ev_s (ea_cons (ev_tuple (ev_lc (xs := rows.mergeSort triLe) (enc := eTri) (fun _ => true) (fun q => eT q.2.2) [("_law_row", 4)] nd (ep_sq (ev_sortedD (ds := rows.map eTri) hr.units (ev_n 2 rfl) rfl (al_tri _) (so_tri _) (fun d hd => ?_) T.sorted) (sort_tri _)) (fun q hq => ⟨_, fun s H C cl fp => (eg_n 4 nd), fun s H C cl fp => ets_nil, fun _ => ⟨_, fun s H C cl fp => (ev_ix (ev_n 4 rfl) ev_i rfl rfl), rfl, rfl⟩⟩)) T.tuple) ea_nil))) ⟨_, .inl rfl, ?_⟩)
        · obtain ⟨q, _, rfl⟩ := List.mem_map.mp hd
          exact sh_tri 38 q
        · show RK.v (D.tup [.str "table", .tup _]) = RK.v (D.tup [.str "table", .tup _])
          rw [el, List.filter_eq_self.mpr (fun _ _ => rfl), List.map_map]; rfl
    cases c with
    | maker r b s =>
      refine ss_set 1 nd (ev_lst (ea_cons (ev_ix (ev_n 0 rfl) ev_i rfl rfl) (ea_cons (ev_ix (ev_n 0 rfl) ev_i rfl rfl) ea_nil))) ?_
      refine ss_when (EvT.is (et_c (ec_eq (ev_ix (ev_n 0 rfl) ev_i rfl rfl) ev_s (.str _ _))) (show _ = false by decide +kernel)) (fun ht => nomatch ht) (fun ht => ?_)
      exact go
    | sides r b q s =>
      refine ss_set 1 nd (ev_lst (ea_cons (ev_ix (ev_n 0 rfl) ev_i rfl rfl) (ea_cons (ev_ix (ev_n 0 rfl) ev_i rfl rfl) ea_nil))) ?_
      refine ss_when (EvT.is (et_c (ec_eq (ev_ix (ev_n 0 rfl) ev_i rfl rfl) ev_s (.str _ _))) (show _ = true by decide +kernel)) (fun ht => ?_) (fun ht => nomatch ht)
      refine ss_set 1 nd (ev_lst (ea_cons (ev_ix (ev_n 0 rfl) ev_i rfl rfl) (ea_cons (ev_ix (ev_n 0 rfl) ev_i rfl rfl) ea_nil))) (ss_nil ?_)
      exact go
    | _ => exact hms.elim
end
end N50
/-! text L7 -/
set_option maxHeartbeats 4000000
namespace N50
open PySem PySem.Spec PyProof.Rows L2
theorem eL_app (xs : List Int) (y : Int) : eL (xs ++ [y]) = .lst (xs.map .int ++ [.int y]) := by rw [eL, List.map_append]; rfl
theorem eL_set (xs : List Int) (i : Nat) (y : Int) : eL (xs.set i y) = .lst ((xs.map .int).set i (.int y)) := by rw [eL, List.map_set]
theorem lDrawStep_len (C : List Int) (q : List Int × List Int) (k : Int) : (lDrawStep C q k).1.length = q.1.length ∧ (lDrawStep C q k).2.length = q.2.length + 1 := by
  unfold lDrawStep
  split <;> simp
section
variable {P : Program} {w : World} {K : PySem.W.Frag} {mg : Str → Option Value} {base : Heap} {f : Addr} {fd : FuncData}
theorem ok_draws (F : Fun K "_law_draws" "_law_draws" s_law_draws f fd) (T : Bt mg) : FnOk P w K mg base CX0 1 f fd ["_law_script", "_law_many"] (SpP 2 R_draws K) := by
  refine fn_P F sc_law_draws rfl (fun ds r h => ?_) fun cdv A outer s H E ds r hr h => ?_
  · obtain ⟨s, n, rfl, _⟩ := h; rfl
  · obtain ⟨s, n, rfl, hn, hs, rfl⟩ := h
    have nd := sc_law_draws.nd
    refine ss_setLcN 2 (xs := s) (enc := .int) (fun _ => true) .int [("_law_cell_here", 8)] nd (ep_sq (ev_n 0 rfl) rfl) (fun x hx => ⟨_, fun s H C cl fp => (eg_n 8 nd), fun s H C cl fp => ets_nil, fun _ => ⟨_, fun s H C cl fp => (ev_int (ev_n 8 rfl) rfl T.int), rfl, rfl⟩⟩) ?_
    rw [List.filter_eq_self.mpr (fun _ _ => rfl)]
    have hC0 : lCells s ≠ [] := by unfold lCells; split <;> simp_all
    have hCl : (lCells s).length ≤ 1000 := by unfold lCells; split <;> simp_all
    refine ss_join [.val (.scr s), .val (.int n), .own true (eL (lCells s)), .no, .no, .no, .no, .no, .no] (t := decide (s = [])) (EvT.is (et_c (ec_eq (ev_len (ev_o 2 rfl) T.len) ev_i (.int _ _))) ?_) (fun ht => ?_) (fun ht => ?_) ?_
    · cases s <;> simp [D.its, RK.d]; omega
    · have e := of_decide_eq_true ht
      subst e
      refine ss_app 2 ev_i rfl (szb rfl) (ss_nil ?_)
      repeat (first | exact le_nil | refine le_no ?_ | refine le_eq ?_)
    · have e : lCells s = s := if_neg (of_decide_eq_false ht)
      rw [e]
      repeat (first | exact le_nil | refine le_no ?_ | refine le_eq ?_)
    · have eD : lDraws s n = ((idxs n).foldl (lDrawStep (lCells s)) (lCells s, [])).2.reverse := rfl
      generalize lCells s = C at *
      have hCp : 0 < (C.length : Int) := by have := List.length_pos_iff.mpr hC0; omega
      refine ss_setN 3 nd (ev_listI (ns := C) (ev_o 2 rfl) rfl T.list) ?_
      refine ss_setN 4 nd (ev_lst ea_nil) ?_
      refine ss_forF (xs := idxs n) (enc := .int) (fun q : List Int × List Int => [.val (.scr s), .val (.int n), .own true (eL C), .own true (eL q.1), .own true (eL q.2), .no, .no, .no, .no]) (lDrawStep C) (fun i q => q.1.length = C.length ∧ q.2.length = i) (C, []) .never (ei_idx (n := n) (ev_n 1 rfl) rfl (by omega) T.range) ⟨rfl, rfl⟩ (by repeat (first | exact le_nil | refine le_no ?_ | refine le_eq ?_)) (fun i x q hx hJ => ⟨?_, _, _, (eg_n 5 nd), ?_⟩) (fun hJ => ?_)
      · have := lDrawStep_len C q x
        exact ⟨this.1.trans hJ.1, by rw [this.2, hJ.2]⟩
      · have hi := lt_of_get hx
        rw [idxs_len] at hi
        refine ss_set 6 nd (ev_mod (j := (C.length : Nat)) (ev_n 5 rfl) (ev_len (ev_o 2 rfl) T.len) rfl (by exact lenM D.int C) hCp) ?_
        have m0 := Int.emod_nonneg x (b := (C.length : Int)) (by omega)
        have m1 := Int.emod_lt_of_pos x hCp
        have est : lDrawStep C q x = if 10 ^ 18 ≤ C.getD (x % (C.length : Int)).toNat 0 then (q.1.set (x % (C.length : Int)).toNat (q.1.getD (x % (C.length : Int)).toNat 0 / 1000), q.2 ++ [q.1.getD (x % (C.length : Int)).toNat 0 % 1000])
          else (q.1, q.2 ++ [(lOnce (C.getD (x % (C.length : Int)).toNat 0) x * lOnce (C.getD (x % (C.length : Int)).toNat 0) x + 3 * lOnce (C.getD (x % (C.length : Int)).toNat 0) x + x) % 1000003]) := rfl
        obtain ⟨a, ha⟩ := Int.eq_ofNat_of_zero_le m0
        rw [ha] at est ⊢
        rw [Int.toNat_natCast] at est
        have hac : a < C.length := by omega
        have ec : atI (C.map D.int) ((a : Nat) : Int) = some (.int (C.getD a 0)) := atN 0 hac
        have er : atI (q.1.map D.int) ((a : Nat) : Int) = some (.int (q.1.getD a 0)) := atN 0 (by rw [hJ.1]; exact hac)
        generalize C.getD a 0 = c at est ec
        generalize q.1.getD a 0 = d at est er
        refine ss_if (et_c (ec_ge (i := c) (j := 10 ^ 18) (ev_ix (d := .int c) (ev_o 2 rfl) (ev_n 6 rfl) rfl (by exact ec)) (ev_pow ev_i ev_i rfl rfl ⟨by decide, by decide, by decide⟩) rfl rfl)) (fun ht => ?_) (fun ht => ?_)
        · rw [if_pos (of_decide_eq_true ht)] at est
          refine ss_app 4 (ev_mod (ev_int (i := d) (ev_ix (d := .int d) (ev_o 3 rfl) (ev_n 6 rfl) rfl (by exact er)) rfl T.int) ev_i rfl rfl (by decide)) rfl ?_ ?_
          · rw [List.length_map, hJ.2]; exact szl (by omega)
          · refine ss_put 3 (ev_fdiv (i := d) (ev_ix (d := .int d) (ev_o 3 rfl) (ev_n 6 rfl) rfl (by exact er)) ev_i rfl rfl ⟨by decide, by decide⟩) (ev_n 6 rfl) rfl rfl ?_ (ss_nil (ss_nil ?_))
            · rw [List.length_map, hJ.1]; exact hac
            · rw [est]
              show Le [_, _, _, .own true (eL (q.1.set a (d / 1000))), .own true (eL (q.2 ++ [d % 1000])), _, _, _, _] _
              rw [eL_set, eL_app]
              repeat (first | exact le_nil | refine le_no ?_ | refine le_eq ?_)
        · rw [if_neg (of_decide_eq_false ht)] at est
          refine ss_set 7 nd (ev_mod (ev_int (ev_add (ev_add (ev_mul (i := c) (ev_ix (d := .int c) (ev_o 2 rfl) (ev_n 6 rfl) rfl (by exact ec)) ev_i rfl rfl (.inr ⟨by decide, by decide⟩)) (ev_mul (ev_n 5 rfl) ev_i rfl rfl (.inr ⟨by decide, by decide⟩)) rfl rfl) ev_i rfl rfl) rfl T.int) ev_i rfl rfl (by decide)) ?_
          show SS _ _ _ [_, _, _, _, _, _, _, .val (.int (lOnce c x)), _]
          have o0 : 0 ≤ lOnce c x := Int.emod_nonneg _ (by decide)
          have o1 : lOnce c x < 2147483647 := Int.emod_lt_of_pos _ (by decide)
          generalize lOnce c x = o at est o0 o1
          have ob : -(2 ^ 64) < o ∧ o < 2 ^ 64 := by constructor <;> omega
          refine ss_app 4 (ev_mod (ev_int (ev_add (ev_add (ev_mul (ev_n 7 rfl) (ev_n 7 rfl) rfl rfl (.inl ob)) (ev_mul ev_i (ev_n 7 rfl) rfl rfl (.inr ob)) rfl rfl) (ev_n 5 rfl) rfl rfl) rfl T.int) ev_i rfl rfl (by decide)) rfl ?_ (ss_nil (ss_nil ?_))
          · rw [List.length_map, hJ.2]; exact szl (by omega)
          · rw [est]
            show Le [_, _, _, _, .own true (eL (q.2 ++ [(o * o + 3 * o + x) % 1000003])), _, _, _, _] _
            rw [eL_app]
            repeat (first | exact le_nil | refine le_no ?_ | refine le_eq ?_)
      · rw [eD]
        generalize (idxs n).foldl (lDrawStep C) (C, []) = q
        refine ss_rev 4 rfl (ss_retO 4 rfl (.inl ?_))
        show RK.n _ = RK.n _
        rw [eL, List.map_reverse]
end
end N50
/-! text Lq -/
set_option maxHeartbeats 4000000
namespace N50
open PySem
/-! ### the law's webs, over plain data: each gives (value, draws that are left) -/
def nthI (xs : List Int) (k : Int) : Int := xs.getD k.toNat 0
def lHalf (cs : List Int) (cut k : Int) : List Int := if k = 0 then upTo cs (cut / 2) else if k = 1 then cs.drop cut.toNat else pickD cs none (some cut) (some 2)
def lGrpStep (q : List (List Int × Int) × List Int) (g : List Int) : List (List Int × Int) × List Int :=
  if g = [] then q else if (tk 2 q.2).1 = 0 then (q.1 ++ [(g, nthI [1, 1, 2, 0, 3] (tk 5 (tk 2 q.2).2).1)], (tk 5 (tk 2 q.2).2).2) else (q.1, (tk 2 q.2).2)
def lGroups2 (cs : List Int) (cut : Int) (k : Int × List Int) : List (List Int × Int) × List Int := [lHalf cs cut k.1, upTo cs cut, cs].foldl lGrpStep ([], k.2)
def lGroups1 (cs : List Int) (c : Int × List Int) : List (List Int × Int) × List Int := lGroups2 cs c.1 (tk 3 c.2)
def lGroups (ds cs : List Int) : List (List Int × Int) × List Int := lGroups1 cs (tk ((cs.length : Int) + 1) ds)
def mn2 (i j : Int) : Int := if j < i then j else i
def mx2 (i j : Int) : Int := if j > i then j else i
/-- the places of seller and buyer in the order, not yet in order -/
def lFS (count k shape : Int) (q : Int × Int) : Int × Int :=
  if shape = 1 then (k % (count - 1), k % (count - 1) + 1) else if shape = 2 then (mn2 (k % 2) (count - 2), mn2 (k % 2) (count - 2) + 1) else q
def lPrice (s : List Int) (p : Int) (t : Int × List Int) : Int × List Int := if t.1 = 0 then lCell s t.2 else (p, t.2)
def lPair4 (s order : List Int) (fs : Int × Int) (r : Int × List Int) : Con × List Int := (⟨nthI order (mn2 fs.1 fs.2), nthI order (mx2 fs.1 fs.2), r.1⟩, r.2)
def lPair3 (s order : List Int) (fs : Int × Int) (p : Int × List Int) : Con × List Int := lPair4 s order fs (lPrice s (p.1 - 2 + 4 * mn2 fs.1 fs.2) (tk 20 p.2))
def lPair2 (s order : List Int) (shape k first : Int) (g : Int × List Int) : Con × List Int := lPair3 s order (lFS order.length k shape (first, (first + 1 + g.1) % (order.length : Int))) (tk 12 g.2)
def lPair1 (s order : List Int) (shape k : Int) (f : Int × List Int) : Con × List Int := lPair2 s order shape k f.1 (tk ((order.length : Int) - 1) f.2)
def lPairStep (s order : List Int) (shape : Int) (q : List Con × List Int) (k : Int) : List Con × List Int := (q.1 ++ [(lPair1 s order shape k (tk order.length q.2)).1], (lPair1 s order shape k (tk order.length q.2)).2)
def lPairs (s ds order : List Int) (most shape : Int) : List Con × List Int := (idxs (tk (most + 1) ds).1.toNat).foldl (lPairStep s order shape) ([], (tk (most + 1) ds).2)
/-! ### choices -/
def abI (c : Int) : Int := if c < 0 then -c else c
def lRooms2 (c : Int) (r : Int) (f : Int × List Int) : (Int × Int) × List Int := (if f.1 = 0 then (abI c, r) else (r, abI c), f.2)
def lRooms1 (s : List Int) (r : Int × Int) (t : Int × List Int) : (Int × Int) × List Int := if t.1 = 0 then lRooms2 (lCell s t.2).1 r.1 (tk 2 (lCell s t.2).2) else (r, t.2)
def lRoomsB (s : List Int) (r1 : Int) (b : Int × List Int) : (Int × Int) × List Int := lRooms1 s (nthI [1, 1, 2, 3, 9, 0] r1, nthI [1, 1, 2, 9, 0] b.1) (tk 12 b.2)
def lRoomsA (s : List Int) (a : Int × List Int) : (Int × Int) × List Int := lRoomsB s a.1 (tk 5 a.2)
def lRooms (s ds : List Int) : (Int × Int) × List Int := lRoomsA s (tk 6 ds)
def lCost1 (s : List Int) (c : Int × List Int) : Int × List Int := lPrice s (c.1 - 1) (tk 12 c.2)
def lCost (s ds : List Int) : Int × List Int := lCost1 s (tk 5 ds)
def lLast (buys sells w0 w1 : List Int) (ch : Pl) (t : Int × List Int) : Pl × List Int :=
  (if t.1 = 0 ∧ (w0.length : Int) + w1.length < 6 ∧ (buys.length : Int) + sells.length < 7 then .table (lTable ch) else ch, t.2)
def lKind (s buys sells w0 w1 : List Int) (rooms : Int × Int) (k : Int × List Int) : Pl × List Int :=
  if k.1 = 0 then (.caps w0 (lGroups k.2 buys).1 w1 (lGroups (lGroups k.2 buys).2 sells).1, (lGroups (lGroups k.2 buys).2 sells).2)
  else if k.1 < 3 ∧ buys ≠ [] ∧ sells ≠ [] then (.trader rooms.1 (lCost s k.2).1 (isort w0) (isort w1), (lCost s k.2).2)
  else lLast buys sells w0 w1 (if k.1 < 5 ∨ buys = [] ∨ sells = [] then .sides rooms.1 w0 rooms.2 w1 else .maker rooms.1 w0 w1) (tk 4 k.2)
def lPlain3 (s buys sells w0 w1 : List Int) (r : (Int × Int) × List Int) : Pl × List Int := lKind s buys sells w0 w1 r.1 (tk 8 r.2)
def lPlain2 (s buys sells w0 : List Int) (m : List Int × List Int) : Pl × List Int := lPlain3 s buys sells w0 m.2 (lRooms s m.1)
def lPlain1 (s buys sells : List Int) (share : Int) (m : List Int × List Int) : Pl × List Int := lPlain2 s buys sells m.2 (lMixed m.1 sells share)
def lPlain0 (s buys sells : List Int) (a : Int × List Int) : Pl × List Int := lPlain1 s buys sells (nthI [8, 8, 7, 5] a.1) (lMixed a.2 buys (nthI [8, 8, 7, 5] a.1))
def lPlain (s ds buys sells : List Int) : Pl × List Int := lPlain0 s buys sells (tk 4 ds)
def lPlaceStep (many : Int) (q : List Int × List Int) (c : Int) : List Int × List Int := (q.1 ++ [(tk many q.2).1], (tk many q.2).2)
def lPlacesD (many : Int) (ds all : List Int) : List Int × List Int := all.foldl (lPlaceStep many) ([], ds)
def lOwnK (all places : List Int) (k : Int) : List Int := ((idxs places.length).filter fun at' => decide (nthI places at' = k)).map fun at' => nthI all at'
def lPartStep (s buys sells places : List Int) (q : List Pl × List Int) (k : Int) : List Pl × List Int :=
  (q.1 ++ [(lPlain s q.2 (buys.filter fun c => decide (c ∈ lOwnK (buys ++ sells) places k)) (sells.filter fun c => decide (c ∈ lOwnK (buys ++ sells) places k))).1],
   (lPlain s q.2 (buys.filter fun c => decide (c ∈ lOwnK (buys ++ sells) places k)) (sells.filter fun c => decide (c ∈ lOwnK (buys ++ sells) places k))).2)
def lSplit2 (s buys sells : List Int) (many : Int) (pl : List Int × List Int) : List Pl × List Int := (idxs many.toNat).foldl (lPartStep s buys sells pl.1) ([], pl.2)
def lSplit1 (s buys sells : List Int) (many : Int) (ds : List Int) : List Pl × List Int := if buys ++ sells = [] then ([], ds) else lSplit2 s buys sells many (lPlacesD many ds (buys ++ sells))
def lPick2 (s buys sells : List Int) (m : Int × List Int) : Ch × List Int := (.split (lSplit1 s buys sells (nthI [2, 3, 2, 1, 5, 9] m.1) m.2).1, (lSplit1 s buys sells (nthI [2, 3, 2, 1, 5, 9] m.1) m.2).2)
def lPick1 (s buys sells : List Int) (t : Int × List Int) : Ch × List Int := if 0 < t.1 then (.pl (lPlain s t.2 buys sells).1, (lPlain s t.2 buys sells).2) else lPick2 s buys sells (tk 6 t.2)
def lPick (s ds buys sells : List Int) : Ch × List Int := lPick1 s buys sells (tk 8 ds)
/-! ### webs -/
def lUPairs : List (Int × Int) := [(2, 0), (3, 0), (4, 0), (2, 1), (3, 1)]
def lUChoices (nu : List Int) : List Pl :=
  [.table [[nthI nu 0], isort [nthI nu 1, nthI nu 2], [nthI nu 1], [nthI nu 2]], .sides 1 [nthI nu 4, nthI nu 3] 0 [], .sides 0 [] 1 [nthI nu 3, nthI nu 0], .sides 0 [] 1 [nthI nu 1, nthI nu 4], .sides 0 [] 1 [nthI nu 2]]
def lUPair (nu : List Int) (k : Int) : Int × Int := lUPairs.getD (nu.idxOf k) (0, 0)
def lUChoice (pl nu : List Int) (k : Int) : Pl := (lUChoices nu).getD (pl.idxOf k) (.table [])
def lUStep2 (pl nu : List Int) (k : Int) (q : List Con × List (Str × Ch)) (a : Int) (b : Int × List Int) : (List Con × List (Str × Ch)) × List Int :=
  ((q.1 ++ [⟨nthI pl (lUPair nu k).1, nthI pl (lUPair nu k).2, a⟩], q.2 ++ [(lWord (1 + 7 * k + b.1), .pl (lUChoice pl nu k))]), b.2)
def lUStep (pl nu : List Int) (q : (List Con × List (Str × Ch)) × List Int) (k : Int) : (List Con × List (Str × Ch)) × List Int := lUStep2 pl nu k q.1 (tk 9 q.2).1 (tk 7 (tk 9 q.2).2)
def lUEnd (pl : List Int) (m : List Int × List Int) : Web × List Int :=
  (⟨((idxs 5).foldl (lUStep pl m.2) (([], []), m.1)).1.2, ((idxs 5).foldl (lUStep pl m.2) (([], []), m.1)).1.1⟩, ((idxs 5).foldl (lUStep pl m.2) (([], []), m.1)).2)
def lUnsteady1 (m : List Int × List Int) : Web × List Int := lUEnd m.2 (lMixed m.1 [0, 1, 2, 3, 4] 8)
def lUnsteady (ds : List Int) : Web × List Int := lUnsteady1 (lMixed ds [0, 1, 2, 3, 4] 8)
def lWild (b s : List Int) : List (List Int) :=
  if b = [] ∨ s = [] then [(b ++ s).take 1, ((b ++ s).drop 1).take 2, ((b ++ s).drop 1).take 1, ((b ++ s).drop 2).take 1]
  else if s.length < 2 then [isort (b.take 2 ++ s.take 1), isort (b.take 1 ++ s.take 1), isort ((b.drop 1).take 1 ++ s.take 1)]
  else [isort (b.take 1 ++ s.take 2), isort (b.take 1 ++ s.take 1), isort (b.take 1 ++ (s.drop 1).take 1)]
def lOrdStep (q : List Int × List Int) (k : Int) : List Int × List Int := (q.1.take (tk (k + 1) q.2).1.toNat ++ [k] ++ q.1.drop (tk (k + 1) q.2).1.toNat, (tk (k + 1) q.2).2)
def lOrder (ds : List Int) (n : Nat) : List Int × List Int := (idxs n).foldl lOrdStep ([], ds)
def cBuys (cs : List Con) (h : Int) : List Int := (idxs cs.length).filter fun c => decide (buyOf ⟨[], cs⟩ c = h)
def cSells (cs : List Con) (h : Int) : List Int := (idxs cs.length).filter fun c => decide (selOf ⟨[], cs⟩ c = h)
def lXX (k : Int) : Str := if k = 2 then "xx" else ""
def lName (k : Int) (a : Int) (b : Int) : Str := lWord (1 + 7 * k + a) ++ (if k = 0 then lXX b else "")
def lHouse3 (s : List Int) (cs : List Con) (k : Int) (nm : Str) (c : Ch × List Int) : (Str × Ch) × List Int := ((nm, c.1), c.2)
def lHouse2 (s : List Int) (cs : List Con) (k a : Int) (b : Int × List Int) : (Str × Ch) × List Int := lHouse3 s cs k (lName k a b.1) (lPick s b.2 (cBuys cs k) (cSells cs k))
def lHouse1 (s : List Int) (cs : List Con) (k : Int) (a : Int × List Int) : (Str × Ch) × List Int := lHouse2 s cs k a.1 (tk 3 a.2)
def lHouseStep (s : List Int) (cs : List Con) (q : List (Str × Ch) × List Int) (k : Int) : List (Str × Ch) × List Int := (q.1 ++ [(lHouse1 s cs k (tk 7 q.2)).1], (lHouse1 s cs k (tk 7 q.2)).2)
def lSteady4 (s : List Int) (n : Nat) (p : List Con × List Int) : Web × List Int := (⟨((idxs n).foldl (lHouseStep s p.1) ([], p.2)).1, p.1⟩, ((idxs n).foldl (lHouseStep s p.1) ([], p.2)).2)
def lSteady3 (s order : List Int) (most : Int) (n : Nat) (t : Int × List Int) : Web × List Int := lSteady4 s n (lPairs s t.2 order most t.1)
def lSteady2 (s : List Int) (most : Int) (n : Nat) (o : List Int × List Int) : Web × List Int := lSteady3 s o.1 most n (tk 4 o.2)
def lSteady1 (s : List Int) (most : Int) (c : Int × List Int) : Web × List Int := lSteady2 s most (2 + c.1).toNat (lOrder c.2 (2 + c.1).toNat)
def lSteady (s ds : List Int) (many most : Int) : Web × List Int := lSteady1 s most (tk (many - 1) ds)
def setH (hs : List (Str × Ch)) (h : Int) (c : Ch) : List (Str × Ch) := hs.set h.toNat ((match hs[h.toNat]? with | some q => q.1 | none => ""), c)
def lWildStep (cs : List Con) (q : List (Str × Ch) × List Int) (h : Int) : List (Str × Ch) × List Int :=
  if 2 < (cBuys cs h).length + (cSells cs h).length then (if 0 < (tk 4 q.2).1 then setH q.1 h (.pl (.table (lWild (cBuys cs h) (cSells cs h)))) else q.1, (tk 4 q.2).2) else q
def lWilds (w : Web × List Int) : Web × List Int := (⟨((idxs w.1.hs.length).foldl (lWildStep w.1.cs) (w.1.hs, w.2)).1, w.1.cs⟩, ((idxs w.1.hs.length).foldl (lWildStep w.1.cs) (w.1.hs, w.2)).2)
def lWeb1 (s : List Int) (k : Int × List Int) : Web × List Int := if k.1 = 0 then lUnsteady k.2 else if 1 < k.1 then lSteady s k.2 5 5 else lWilds (lSteady s k.2 5 5)
def lWeb (s ds : List Int) : Web × List Int := lWeb1 s (tk 10 ds)
end N50
/-! text M1 -/
set_option maxHeartbeats 4000000
namespace N50
open PySem
/-! ### choices that hold together, over lists of numbers -/
structure GH (b s : Int → Prop) (F : List Int → List Int) : Prop where
  sss : ∀ Y Y', (∀ c, s c → (c ∈ Y ↔ c ∈ Y')) → (∀ c, b c → c ∈ Y → c ∈ Y') → ∀ c, b c → c ∈ Y → c ∈ F Y' → c ∈ F Y
  csc : ∀ Y Y', (∀ c, b c → (c ∈ Y ↔ c ∈ Y')) → (∀ c, s c → c ∈ Y → c ∈ Y') → ∀ c, b c → c ∈ F Y → c ∈ F Y'
structure GC (b s : Int → Prop) (F : List Int → List Int) : Prop where
  nd : ∀ Y, (F Y).Nodup
  sub : ∀ Y c, c ∈ F Y → c ∈ Y ∧ (b c ∨ s c)
  irc : ∀ Y Z, (∀ c ∈ F Y, c ∈ Z) → (∀ c ∈ Z, (b c ∨ s c) → c ∈ Y) → ∀ c, c ∈ F Z ↔ c ∈ F Y
  B : GH b s F
  S : GH s b F
structure Sd (p : Int → Prop) (G : List Int → List Int) : Prop where
  nd : ∀ Y, (G Y).Nodup
  sub : ∀ Y c, c ∈ G Y → c ∈ Y ∧ p c
  irc : ∀ Y Z, (∀ c ∈ G Y, c ∈ Z) → (∀ c ∈ Z, p c → c ∈ Y) → ∀ c, c ∈ G Z ↔ c ∈ G Y
  sss : ∀ Y Y', (∀ c, p c → c ∈ Y → c ∈ Y') → ∀ c, c ∈ Y → c ∈ G Y' → c ∈ G Y
section
variable {b s b' s' p : Int → Prop} {F F' G1 G2 : List Int → List Int}
theorem GC.cong (h : GC b s F) {Y Z : List Int} (e : ∀ c, b c ∨ s c → (c ∈ Y ↔ c ∈ Z)) (c : Int) : c ∈ F Z ↔ c ∈ F Y :=
  h.irc Y Z (fun c hc => (e c (h.sub Y c hc).2).mp (h.sub Y c hc).1) (fun c hc ho => (e c ho).mpr hc) c
theorem GC.swap (h : GC b s F) : GC s b F := ⟨h.nd, fun Y c hc => ⟨(h.sub Y c hc).1, (h.sub Y c hc).2.symm⟩, fun Y Z h1 h2 => h.irc Y Z h1 fun c hc ho => h2 c hc ho.symm, h.S, h.B⟩
theorem GC.same (h : GC b s F) (e : ∀ Y c, c ∈ F' Y ↔ c ∈ F Y) (nd : ∀ Y, (F' Y).Nodup) : GC b s F' :=
  ⟨nd, fun Y c hc => h.sub Y c ((e Y c).mp hc), fun Y Z h1 h2 c => by rw [e, e]; exact h.irc Y Z (fun c hc => h1 c ((e Y c).mpr hc)) h2 c,
   ⟨fun Y Y' h1 h2 c hb hc hx => (e Y c).mpr (h.B.sss Y Y' h1 h2 c hb hc ((e Y' c).mp hx)), fun Y Y' h1 h2 c hb hc => (e Y' c).mpr (h.B.csc Y Y' h1 h2 c hb ((e Y c).mp hc))⟩,
   ⟨fun Y Y' h1 h2 c hb hc hx => (e Y c).mpr (h.S.sss Y Y' h1 h2 c hb hc ((e Y' c).mp hx)), fun Y Y' h1 h2 c hb hc => (e Y' c).mpr (h.S.csc Y Y' h1 h2 c hb ((e Y c).mp hc))⟩⟩
theorem GH.wide (h : GH b s F) (sub : ∀ Y c, c ∈ F Y → c ∈ Y ∧ (b c ∨ s c)) (hb : ∀ c, b c → b' c) (hs : ∀ c, s c → s' c) (dj : ∀ c, b' c → ¬ s' c) : GH b' s' F :=
  ⟨fun Y Y' h1 h2 c hc hy hx => h.sss Y Y' (fun c z => h1 c (hs c z)) (fun c z => h2 c (hb c z)) c ((sub _ _ hx).2.resolve_right fun z => dj c hc (hs c z)) hy hx,
   fun Y Y' h1 h2 c hc hx => h.csc Y Y' (fun c z => h1 c (hb c z)) (fun c z => h2 c (hs c z)) c ((sub _ _ hx).2.resolve_right fun z => dj c hc (hs c z)) hx⟩
theorem GC.wide (h : GC b s F) (hb : ∀ c, b c → b' c) (hs : ∀ c, s c → s' c) (dj : ∀ c, b' c → ¬ s' c) : GC b' s' F :=
  ⟨h.nd, fun Y c hc => ⟨(h.sub Y c hc).1, (h.sub Y c hc).2.imp (hb c) (hs c)⟩, fun Y Z h1 h2 => h.irc Y Z h1 fun c hc ho => h2 c hc (ho.imp (hb c) (hs c)),
   h.B.wide h.sub hb hs dj, h.S.wide h.swap.sub hs hb fun c z y => dj c y z⟩
theorem GC.sides (h1 : Sd b G1) (h2 : Sd s G2) (dj : ∀ c, b c → ¬ s c) : GC b s (fun Y => G1 Y ++ G2 Y) := by
  have key : ∀ {b s : Int → Prop} {G1 G2 F : List Int → List Int}, Sd b G1 → Sd s G2 → (∀ c, b c → ¬ s c) → (∀ Y c, c ∈ F Y ↔ c ∈ G1 Y ∨ c ∈ G2 Y) → GH b s F := fun {b s G1 G2 F} h1 h2 dj e =>
    ⟨fun Y Y' e1 e2 c hb hy hx => (e _ _).mpr (.inl (h1.sss Y Y' e2 c hy (((e _ _).mp hx).resolve_right fun z => dj c hb (h2.sub _ _ z).2))),
     fun Y Y' e1 e2 c hb hx => (e _ _).mpr (.inl ((h1.irc Y Y' (fun x hx => (e1 x (h1.sub _ _ hx).2).mp (h1.sub _ _ hx).1) (fun x hx hb => (e1 x hb).mpr hx) c).mpr (((e _ _).mp hx).resolve_right fun z => dj c hb (h2.sub _ _ z).2)))⟩
  refine ⟨fun Y => ?_, fun Y c hc => ?_, fun Y Z e1 e2 c => ?_, key h1 h2 dj fun Y c => List.mem_append, key h2 h1 (fun c z y => dj c y z) fun Y c => by rw [List.mem_append, or_comm]⟩
  · exact List.nodup_append.mpr ⟨h1.nd Y, h2.nd Y, fun x hx y hy z => dj x (h1.sub _ _ hx).2 (by rw [z]; exact (h2.sub _ _ hy).2)⟩
  · rcases List.mem_append.mp hc with h | h
    · exact ⟨(h1.sub _ _ h).1, .inl (h1.sub _ _ h).2⟩
    · exact ⟨(h2.sub _ _ h).1, .inr (h2.sub _ _ h).2⟩
  · rw [List.mem_append, List.mem_append]
    rw [h1.irc Y Z (fun c hc => e1 c (List.mem_append.mpr (.inl hc))) (fun c hc hb => e2 c hc (.inl hb)) c, h2.irc Y Z (fun c hc => e1 c (List.mem_append.mpr (.inr hc))) (fun c hc hb => e2 c hc (.inr hb)) c]
/-- two choices of a house, side by side -/
theorem GC.both {b1 s1 b2 s2 : Int → Prop} (h1 : GC b1 s1 G1) (h2 : GC b2 s2 G2) (dj : ∀ c, (b1 c ∨ s1 c) → (b2 c ∨ s2 c) → False) (d1 : ∀ c, b1 c → ¬ s1 c) (d2 : ∀ c, b2 c → ¬ s2 c) :
    GC (fun c => b1 c ∨ b2 c) (fun c => s1 c ∨ s2 c) (fun Y => G1 Y ++ G2 Y) := by
  have key : ∀ {b1 s1 b2 s2 : Int → Prop} {G1 G2 F : List Int → List Int}, GC b1 s1 G1 → GC b2 s2 G2 → (∀ c, (b1 c ∨ s1 c) → (b2 c ∨ s2 c) → False) → (∀ Y c, c ∈ F Y ↔ c ∈ G1 Y ∨ c ∈ G2 Y) → GH (fun c => b1 c ∨ b2 c) (fun c => s1 c ∨ s2 c) F := fun {b1 s1 b2 s2 G1 G2 F} h1 h2 dj e => by
    refine ⟨fun Y Y' e1 e2 c hb hy hx => (e _ _).mpr ?_, fun Y Y' e1 e2 c hb hx => (e _ _).mpr ?_⟩
    · have hx := (e _ _).mp hx
      rcases hb with hb | hb
      · exact .inl (h1.B.sss Y Y' (fun c z => e1 c (.inl z)) (fun c z => e2 c (.inl z)) c hb hy (hx.resolve_right fun z => dj c (.inl hb) (h2.sub _ _ z).2))
      · exact .inr (h2.B.sss Y Y' (fun c z => e1 c (.inr z)) (fun c z => e2 c (.inr z)) c hb hy (hx.resolve_left fun z => dj c (h1.sub _ _ z).2 (.inl hb)))
    · have hx := (e _ _).mp hx
      rcases hb with hb | hb
      · exact .inl (h1.B.csc Y Y' (fun c z => e1 c (.inl z)) (fun c z => e2 c (.inl z)) c hb (hx.resolve_right fun z => dj c (.inl hb) (h2.sub _ _ z).2))
      · exact .inr (h2.B.csc Y Y' (fun c z => e1 c (.inr z)) (fun c z => e2 c (.inr z)) c hb (hx.resolve_left fun z => dj c (h1.sub _ _ z).2 (.inl hb)))
  refine ⟨fun Y => ?_, fun Y c hc => ?_, fun Y Z e1 e2 c => ?_, key h1 h2 dj fun Y c => List.mem_append, key h1.swap h2.swap (fun c z y => dj c z.symm y.symm) fun Y c => List.mem_append⟩
  · exact List.nodup_append.mpr ⟨h1.nd Y, h2.nd Y, fun x hx y hy z => dj x (h1.sub _ _ hx).2 (by rw [z]; exact (h2.sub _ _ hy).2)⟩
  · rcases List.mem_append.mp hc with h | h
    · exact ⟨(h1.sub _ _ h).1, (h1.sub _ _ h).2.imp .inl .inl⟩
    · exact ⟨(h2.sub _ _ h).1, (h2.sub _ _ h).2.imp .inr .inr⟩
  · rw [List.mem_append, List.mem_append]
    rw [h1.irc Y Z (fun c hc => e1 c (List.mem_append.mpr (.inl hc))) (fun c hc hb => e2 c hc (hb.imp .inl .inl)) c, h2.irc Y Z (fun c hc => e1 c (List.mem_append.mpr (.inr hc))) (fun c hc hb => e2 c hc (hb.imp .inr .inr)) c]
theorem GC.nil : GC b s (fun _ => []) := ⟨fun _ => List.nodup_nil, fun _ _ h => by simp at h, fun _ _ _ _ _ => by simp, ⟨fun _ _ _ _ _ _ _ h => by simp at h, fun _ _ _ _ _ _ h => by simp at h⟩, ⟨fun _ _ _ _ _ _ _ h => by simp at h, fun _ _ _ _ _ _ h => by simp at h⟩⟩
end
/-! ### greedy under groups with caps -/
def lGStep (gs : List (List Int × Int)) (off : List Int) (fo : List Int) (c : Int) : List Int := if (decide (c ∈ off) && !lFull gs fo c) = true then fo ++ [c] else fo
theorem lGreedy_eq (ws : List Int) (gs : List (List Int × Int)) (off : List Int) : lGreedy ws gs off = ws.foldl (lGStep gs off) [] := rfl
theorem full_iff {gs : List (List Int × Int)} {fo : List Int} {c : Int} : lFull gs fo c = true ↔ ∃ g ∈ gs, c ∈ g.1 ∧ g.2 ≤ ((fo.countP fun x => decide (x ∈ g.1) : Nat) : Int) := by
  unfold lFull
  rw [List.any_eq_true]
  refine ⟨fun ⟨g, h1, h2⟩ => ⟨g, h1, ?_⟩, fun ⟨g, h1, h2, h3⟩ => ⟨g, h1, ?_⟩⟩
  · rw [Bool.and_eq_true, decide_eq_true_iff, decide_eq_true_iff] at h2
    rw [List.countP_eq_length_filter]; exact h2
  · rw [Bool.and_eq_true, decide_eq_true_iff, decide_eq_true_iff]
    rw [List.countP_eq_length_filter] at h3; exact ⟨h2, h3⟩
def Lam (gs : List (List Int × Int)) : Prop := ∀ g ∈ gs, ∀ h ∈ gs, (∀ x ∈ g.1, x ∈ h.1) ∨ (∀ x ∈ h.1, x ∈ g.1) ∨ ∀ x ∈ g.1, x ∉ h.1
def cu (H : List (List Int × Int)) (x : Int) : Bool := H.any fun h => decide (x ∈ h.1)
def ci (g : List Int × Int) (x : Int) : Bool := decide (x ∈ g.1)
theorem cu_iff {H : List (List Int × Int)} {x : Int} : cu H x = true ↔ ∃ h ∈ H, x ∈ h.1 := by unfold cu; simp
theorem countP_split (A : List Int) (p q : Int → Bool) : A.countP p = A.countP (fun x => p x && q x) + A.countP (fun x => p x && !q x) := by
  induction A with
  | nil => rfl
  | cons a A ih =>
    rw [List.countP_cons, List.countP_cons, List.countP_cons, ih]
    cases h1 : p a <;> cases h2 : q a <;> simp (config := { failIfUnchanged := false }) <;> omega
/-- full groups hold as much as any feasible row -/
theorem count_union {A A' : List Int} : ∀ (n : Nat) (H : List (List Int × Int)), H.length ≤ n → Lam H → (∀ h ∈ H, A.countP (ci h) ≤ A'.countP (ci h)) → A.countP (cu H) ≤ A'.countP (cu H)
  | _, [], _, _, _ => by
    rw [show cu [] = fun _ => false from rfl]
    simp
  | 0, h :: T, hn, _, _ => by simp at hn
  | n + 1, h :: T, hn, hL, hc => by
    have hT : T.length ≤ n := by simpa using hn
    have LT : Lam T := fun g hg k hk => hL g (List.mem_cons_of_mem _ hg) k (List.mem_cons_of_mem _ hk)
    by_cases hk : ∃ k ∈ T, ∀ x ∈ h.1, x ∈ k.1
    · obtain ⟨k, k1, k2⟩ := hk
      have e : cu (h :: T) = cu T := by
        funext x
        rw [Bool.eq_iff_iff, cu_iff, cu_iff]
        constructor
        · rintro ⟨g, hg, hx⟩
          rcases List.mem_cons.mp hg with z | z
          · rw [z] at hx; exact ⟨k, k1, k2 x hx⟩
          · exact ⟨g, z, hx⟩
        · rintro ⟨g, hg, hx⟩
          exact ⟨g, List.mem_cons_of_mem _ hg, hx⟩
      rw [e]
      exact count_union n T hT LT fun g hg => hc g (List.mem_cons_of_mem _ hg)
    · let T' := T.filter fun k => T.any fun _ => decide (∀ x ∈ h.1, x ∉ k.1)
      have hT' : ∀ k, k ∈ T' ↔ k ∈ T ∧ ∀ x ∈ h.1, x ∉ k.1 := fun k => by
        simp only [T', List.mem_filter, List.any_eq_true, decide_eq_true_eq]
        exact ⟨fun ⟨a, _, _, c⟩ => ⟨a, c⟩, fun ⟨a, c⟩ => ⟨a, k, a, c⟩⟩
      have e : ∀ x, cu (h :: T) x = (ci h x || cu T' x) := fun x => by
        rw [Bool.eq_iff_iff, cu_iff, Bool.or_eq_true, cu_iff]
        unfold ci
        rw [decide_eq_true_iff]
        constructor
        · rintro ⟨g, hg, hx⟩
          rcases List.mem_cons.mp hg with z | z
          · rw [z] at hx; exact .inl hx
          · rcases hL h List.mem_cons_self g hg with q | q | q
            · exact (hk ⟨g, z, q⟩).elim
            · exact .inl (q x hx)
            · exact .inr ⟨g, (hT' g).mpr ⟨z, q⟩, hx⟩
        · rintro (hx | ⟨g, hg, hx⟩)
          · exact ⟨h, List.mem_cons_self, hx⟩
          · exact ⟨g, List.mem_cons_of_mem _ ((hT' g).mp hg).1, hx⟩
      have dj : ∀ x, (ci h x && cu T' x) = false := fun x => by
        cases q : (ci h x && cu T' x) with
        | false => rfl
        | true =>
          rw [Bool.and_eq_true, cu_iff] at q
          obtain ⟨q1, g, hg, hx⟩ := q
          exact (((hT' g).mp hg).2 x (of_decide_eq_true q1) hx).elim
      have sp : ∀ A : List Int, A.countP (cu (h :: T)) = A.countP (ci h) + A.countP (cu T') := fun A => by
        rw [countP_split A (cu (h :: T)) (ci h)]
        congr 1
        · refine List.countP_congr fun x _ => ?_
          rw [e]; cases ci h x <;> simp
        · refine List.countP_congr fun x _ => ?_
          have := dj x
          rw [e]; cases q : ci h x <;> simp [q] at this ⊢
          exact this
      rw [sp, sp]
      have := hc h List.mem_cons_self
      have := count_union n T' (Nat.le_trans (List.length_filter_le ..) hT) (fun g hg k hk => LT g ((hT' g).mp hg).1 k ((hT' k).mp hk).1) fun g hg => hc g (List.mem_cons_of_mem _ ((hT' g).mp hg).1)
      omega
/-- a group full of feasible A is full in A', where all of A is taken or barred -/
theorem full_of {gs : List (List Int × Int)} (hL : Lam gs) {A A' : List Int} (nA : A.Nodup) (fe : ∀ g ∈ gs, 0 < A.countP (ci g) → ((A.countP (ci g) : Nat) : Int) ≤ g.2) (hA : ∀ a ∈ A, a ∈ A' ∨ lFull gs A' a = true) {x : Int} (hx : lFull gs A x = true) : lFull gs A' x = true := by
  obtain ⟨g, hg, h1, h2⟩ := full_iff.mp hx
  refine Classical.byContradiction fun no => ?_
  have no' : ∀ k ∈ gs, (∀ y ∈ g.1, y ∈ k.1) → ¬ k.2 ≤ ((A'.countP (ci k) : Nat) : Int) := fun k hk hs z => no (full_iff.mpr ⟨k, hk, hs x h1, z⟩)
  let H := gs.filter fun k => decide (k.2 ≤ ((A'.countP (ci k) : Nat) : Int)) && decide (∀ y ∈ k.1, y ∈ g.1)
  have hH : ∀ k, k ∈ H ↔ k ∈ gs ∧ k.2 ≤ ((A'.countP (ci k) : Nat) : Int) ∧ ∀ y ∈ k.1, y ∈ g.1 := fun k => by
    simp only [H, List.mem_filter, Bool.and_eq_true, decide_eq_true_eq]
  have c1 : A.countP (cu H) ≤ A'.countP (cu H) := count_union H.length H (Nat.le_refl _) (fun a ha b hb => hL a ((hH a).mp ha).1 b ((hH b).mp hb).1) fun k hk => by
    obtain ⟨k1, k2, _⟩ := (hH k).mp hk
    rcases Nat.eq_zero_or_pos (A.countP (ci k)) with z | z
    · omega
    · have := fe k k1 z; omega
  have sub : ∀ y, cu H y = true → ci g y = true := fun y hy => by
    obtain ⟨k, hk, hy⟩ := cu_iff.mp hy
    exact decide_eq_true (((hH k).mp hk).2.2 y hy)
  have c2 : A.countP (fun y => ci g y && !cu H y) ≤ A'.countP (fun y => ci g y && !cu H y) := by
    rw [List.countP_eq_length_filter, List.countP_eq_length_filter]
    refine List.Nodup.length_le_of_subset (nA.filter _) fun y hy => ?_
    obtain ⟨y1, y2⟩ := List.mem_filter.mp hy
    refine List.mem_filter.mpr ⟨?_, y2⟩
    rw [Bool.and_eq_true] at y2
    refine (hA y y1).resolve_right fun z => ?_
    obtain ⟨k, k1, k2, k3⟩ := full_iff.mp z
    rcases hL g hg k k1 with q | q | q
    · exact no' k k1 q k3
    · have : cu H y = true := cu_iff.mpr ⟨k, (hH k).mpr ⟨k1, k3, q⟩, k2⟩
      rw [this] at y2
      exact nomatch y2.2
    · exact q y (of_decide_eq_true y2.1) k2
  have e1 := countP_split A (ci g) (cu H)
  have e2 := countP_split A' (ci g) (cu H)
  have u : ∀ A : List Int, A.countP (fun y => ci g y && cu H y) = A.countP (cu H) := fun A => List.countP_congr fun y _ => by
    cases q : cu H y with
    | false => simp
    | true => simp [sub y q]
  rw [u] at e1 e2
  have h2' : g.2 ≤ ((A.countP (ci g) : Nat) : Int) := h2
  exact no' g hg (fun _ z => z) (by omega)
theorem full_mono {gs : List (List Int × Int)} {A : List Int} {x y : Int} (h : lFull gs A x = true) : lFull gs (A ++ [y]) x = true := by
  obtain ⟨g, h1, h2, h3⟩ := full_iff.mp h
  refine full_iff.mpr ⟨g, h1, h2, ?_⟩
  rw [List.countP_append]; omega
/-- the run for less and the run for more, side by side -/
structure GInv (gs : List (List Int × Int)) (Y : List Int) (A A' : List Int) : Prop where
  n : A.Nodup
  fe : ∀ g ∈ gs, 0 < A.countP (ci g) → ((A.countP (ci g) : Nat) : Int) ≤ g.2
  a : ∀ a ∈ A, a ∈ A' ∨ lFull gs A' a = true
  c : ∀ c ∈ A', c ∈ Y → c ∈ A
theorem GInv.step {gs : List (List Int × Int)} (hL : Lam gs) {Y Y' A A' : List Int} (I : GInv gs Y A A') {c : Int} (hy : c ∈ Y → c ∈ Y') (hc : c ∉ A) : GInv gs Y (lGStep gs Y A c) (lGStep gs Y' A' c) := by
  have grow : ∀ {B : List Int}, (∀ a ∈ B, a ∈ A' ∨ lFull gs A' a = true) → ∀ a ∈ B, a ∈ lGStep gs Y' A' c ∨ lFull gs (lGStep gs Y' A' c) a = true := fun {B} h a ha => by
    unfold lGStep
    split
    · rcases h a ha with q | q
      · exact .inl (List.mem_append.mpr (.inl q))
      · exact .inr (full_mono q)
    · exact h a ha
  by_cases h1 : (decide (c ∈ Y) && !lFull gs A c) = true
  · have e1 : lGStep gs Y A c = A ++ [c] := if_pos h1
    rw [Bool.and_eq_true, decide_eq_true_iff] at h1
    have nf : lFull gs A c = false := by simpa using h1.2
    rw [e1]
    refine ⟨?_, fun g hg hp => ?_, fun a ha => ?_, fun x hx hxy => ?_⟩
    · exact List.nodup_append.mpr ⟨I.n, by simp, fun x hx y hy z => by rw [List.mem_singleton.mp hy] at z; rw [z] at hx; exact hc hx⟩
    · rw [List.countP_append, List.countP_singleton] at hp ⊢
      by_cases q : ci g c = true
      · rw [if_pos q] at hp ⊢
        have : ¬ g.2 ≤ ((A.countP (ci g) : Nat) : Int) := fun z => by
          have := full_iff.mpr ⟨g, hg, of_decide_eq_true q, z⟩
          rw [nf] at this; cases this
        omega
      · rw [if_neg q] at hp ⊢
        have := I.fe g hg (by omega)
        omega
    · rcases List.mem_append.mp ha with q | q
      · exact grow I.a a q
      · rw [List.mem_singleton.mp q]
        unfold lGStep
        by_cases z : lFull gs A' c = true
        · refine .inr ?_
          rw [if_neg (by rw [z]; simp)]
          exact z
        · refine .inl ?_
          rw [if_pos (by simp [hy h1.1, z])]
          exact List.mem_append.mpr (.inr (by simp))
    · refine List.mem_append.mpr ?_
      unfold lGStep at hx
      split at hx
      · rcases List.mem_append.mp hx with q | q
        · exact .inl (I.c x q hxy)
        · exact .inr q
      · exact .inl (I.c x hx hxy)
  · have e1 : lGStep gs Y A c = A := if_neg h1
    rw [e1]
    refine ⟨I.n, I.fe, grow I.a, fun x hx hxy => ?_⟩
    unfold lGStep at hx
    split at hx
    · rename_i h2
      rcases List.mem_append.mp hx with q | q
      · exact I.c x q hxy
      · rw [List.mem_singleton.mp q] at hxy ⊢
        rw [Bool.and_eq_true] at h2
        have : lFull gs A c = true := by
          cases z : lFull gs A c with
          | true => rfl
          | false => exact (h1 (by simp [hxy, z])).elim
        rw [full_of hL I.n I.fe I.a this] at h2
        exact nomatch h2.2
    · exact I.c x hx hxy
theorem mem_fold {gs : List (List Int × Int)} {Y : List Int} : ∀ (ws A : List Int) (x : Int), (x ∈ A → x ∈ ws.foldl (lGStep gs Y) A) ∧ (x ∈ ws.foldl (lGStep gs Y) A → x ∈ A ∨ (x ∈ ws ∧ x ∈ Y))
  | [], A, x => ⟨id, .inl⟩
  | w :: ws, A, x => by
    obtain ⟨h1, h2⟩ := mem_fold (gs := gs) (Y := Y) ws (lGStep gs Y A w) x
    rw [List.foldl_cons]
    refine ⟨fun h => h1 ?_, fun h => ?_⟩
    · unfold lGStep; split
      · exact List.mem_append.mpr (.inl h)
      · exact h
    · rcases h2 h with q | q
      · unfold lGStep at q
        split at q
        · rename_i z
          rw [Bool.and_eq_true, decide_eq_true_iff] at z
          rcases List.mem_append.mp q with q | q
          · exact .inl q
          · rw [List.mem_singleton.mp q]; exact .inr ⟨List.mem_cons_self, z.1⟩
        · exact .inl q
      · exact .inr ⟨List.mem_cons_of_mem _ q.1, q.2⟩
theorem GInv.fold {gs : List (List Int × Int)} (hL : Lam gs) {Y Y' : List Int} : ∀ (ws A A' : List Int), ws.Nodup → (∀ x ∈ ws, x ∉ A) → (∀ x ∈ ws, x ∈ Y → x ∈ Y') → GInv gs Y A A' → GInv gs Y (ws.foldl (lGStep gs Y) A) (ws.foldl (lGStep gs Y') A')
  | [], _, _, _, _, _, I => I
  | w :: ws, A, A', n, d, hy, I => by
    obtain ⟨n1, n2⟩ := List.nodup_cons.mp n
    refine GInv.fold hL ws _ _ n2 (fun x hx z => ?_) (fun x hx => hy x (List.mem_cons_of_mem _ hx)) (I.step hL (hy w List.mem_cons_self) (d w List.mem_cons_self))
    unfold lGStep at z
    split at z
    · rcases List.mem_append.mp z with q | q
      · exact d x (List.mem_cons_of_mem _ hx) q
      · rw [List.mem_singleton.mp q] at hx; exact n1 hx
    · exact d x (List.mem_cons_of_mem _ hx) z
theorem GInv.nil (gs : List (List Int × Int)) (Y : List Int) : GInv gs Y [] [] := ⟨List.nodup_nil, fun _ _ h => by simp at h, fun _ h => by simp at h, fun _ h => by simp at h⟩
/-- what is not taken may go -/
theorem fold_irc {gs : List (List Int × Int)} {Y Z : List Int} : ∀ (ws A : List Int), (∀ c ∈ ws.foldl (lGStep gs Y) A, c ∈ A ∨ c ∈ Z) → (∀ x ∈ ws, x ∉ A) → ws.Nodup → (∀ c ∈ ws, c ∈ Z → c ∈ Y) → ws.foldl (lGStep gs Z) A = ws.foldl (lGStep gs Y) A
  | [], _, _, _, _, _ => rfl
  | w :: ws, A, h1, d, n, h2 => by
    obtain ⟨n1, n2⟩ := List.nodup_cons.mp n
    have e : lGStep gs Z A w = lGStep gs Y A w := by
      by_cases hz : w ∈ Z
      · have hy := h2 w List.mem_cons_self hz
        unfold lGStep; simp [hz, hy]
      · by_cases hy : (decide (w ∈ Y) && !lFull gs A w) = true
        · have : w ∈ lGStep gs Y A w := by unfold lGStep; rw [if_pos hy]; simp
          rcases h1 w ((mem_fold ws _ w).1 this) with q | q
          · exact (d w List.mem_cons_self q).elim
          · exact (hz q).elim
        · unfold lGStep; rw [if_neg hy]; simp [hz]
    rw [List.foldl_cons, List.foldl_cons, e]
    refine fold_irc ws _ (fun c hc => ?_) (fun x hx z => ?_) n2 fun c hc => h2 c (List.mem_cons_of_mem _ hc)
    · rcases h1 c hc with q | q
      · left; unfold lGStep; split
        · exact List.mem_append.mpr (.inl q)
        · exact q
      · exact .inr q
    · unfold lGStep at z
      split at z
      · rcases List.mem_append.mp z with q | q
        · exact d x (List.mem_cons_of_mem _ hx) q
        · rw [List.mem_singleton.mp q] at hx; exact n1 hx
      · exact d x (List.mem_cons_of_mem _ hx) z
theorem sd_greedy {ws : List Int} {gs : List (List Int × Int)} (n : ws.Nodup) (hL : Lam gs) : Sd (fun c => c ∈ ws) (lGreedy ws gs) := by
  refine ⟨fun Y => ?_, fun Y c hc => ?_, fun Y Z h1 h2 c => ?_, fun Y Y' h c hy hx => ?_⟩
  · exact (GInv.fold hL ws [] [] n (fun _ _ => List.not_mem_nil) (fun _ _ h => h) (GInv.nil gs Y)).n
  · rcases (mem_fold ws [] c).2 hc with q | q
    · simp at q
    · exact ⟨q.2, q.1⟩
  · rw [lGreedy_eq, lGreedy_eq, fold_irc ws [] (fun c hc => .inr (h1 c hc)) (fun _ _ => List.not_mem_nil) n fun c hc hz => h2 c hz hc]
  · exact (GInv.fold hL ws [] [] n (fun _ _ => List.not_mem_nil) h (GInv.nil gs Y)).c c hx hy
/-- the first so many: one group that has all -/
theorem first_greedy {ws off : List Int} {n : Nat} : ∀ (vs A : List Int), vs.Nodup → (∀ x ∈ A, x ∈ ws) → (∀ x ∈ vs, x ∈ ws) → vs.foldl (lGStep [(ws, (n : Int))] off) A = A ++ (offer vs off).take (n - A.length)
  | [], A, _, _, _ => by simp [offer]
  | v :: vs, A, nd, hA, hv => by
    obtain ⟨n1, n2⟩ := List.nodup_cons.mp nd
    have hf : ∀ B : List Int, (∀ x ∈ B, x ∈ ws) → lFull [(ws, (n : Int))] B v = decide (n ≤ B.length) := fun B hB => by
      have e : B.countP (fun x => decide (x ∈ ws)) = B.length := List.countP_eq_length.mpr fun x hx => decide_eq_true (hB x hx)
      rw [Bool.eq_iff_iff, full_iff, decide_eq_true_iff]
      constructor
      · rintro ⟨g, hg, _, h⟩
        rw [List.mem_singleton.mp hg] at h
        dsimp only at h
        rw [e] at h; omega
      · intro h
        exact ⟨_, List.mem_singleton.mpr rfl, hv v List.mem_cons_self, by dsimp only; rw [e]; omega⟩
    rw [List.foldl_cons]
    have hf := hf A hA
    by_cases ho : v ∈ off
    · by_cases hl : n ≤ A.length
      · have e : lGStep [(ws, (n : Int))] off A v = A := by unfold lGStep; rw [hf]; simp [hl]
        rw [e, first_greedy vs A n2 hA fun x hx => hv x (List.mem_cons_of_mem _ hx)]
        have : n - A.length = 0 := by omega
        rw [this]; simp
      · have e : lGStep [(ws, (n : Int))] off A v = A ++ [v] := by unfold lGStep; rw [hf]; simp [hl, ho]
        rw [e, first_greedy vs (A ++ [v]) n2 (fun x hx => by
          rcases List.mem_append.mp hx with q | q
          · exact hA x q
          · rw [List.mem_singleton.mp q]; exact hv v List.mem_cons_self) fun x hx => hv x (List.mem_cons_of_mem _ hx)]
        have e2 : n - A.length = (n - (A ++ [v]).length) + 1 := by simp; omega
        rw [e2]
        have e3 : offer (v :: vs) off = v :: offer vs off := by unfold offer; rw [List.filter_cons]; simp [ho]
        rw [e3, List.take_succ_cons]; simp
    · have e : lGStep [(ws, (n : Int))] off A v = A := by unfold lGStep; simp [ho]
      have e3 : offer (v :: vs) off = offer vs off := by unfold offer; rw [List.filter_cons]; simp [ho]
      rw [e, e3, first_greedy vs A n2 hA fun x hx => hv x (List.mem_cons_of_mem _ hx)]
theorem upTo_nn {α : Type} {xs : List α} {n : Int} (h : 0 ≤ n) : upTo xs n = xs.take n.toNat := by unfold upTo; rw [if_neg (by omega)]
theorem upTo_greedy {ws : List Int} (nd : ws.Nodup) {n : Int} (h : 0 ≤ n) (off : List Int) : upTo (offer ws off) n = lGreedy ws [(ws, n)] off := by
  rw [upTo_nn h, lGreedy_eq]
  have := first_greedy (ws := ws) (off := off) (n := n.toNat) ws [] nd (by simp) fun _ h => h
  rw [Int.toNat_of_nonneg h] at this
  rw [this]; simp
theorem sd_first {ws : List Int} (nd : ws.Nodup) {n : Int} (h : 0 ≤ n) : Sd (fun c => c ∈ ws) (fun off => upTo (offer ws off) n) := by
  rw [show (fun off => upTo (offer ws off) n) = lGreedy ws [(ws, n)] from funext fun off => upTo_greedy nd h off]
  refine sd_greedy nd fun g hg k hk => ?_
  rw [List.mem_singleton.mp hg, List.mem_singleton.mp hk]
  exact .inl fun _ h => h
/-- the program's caps are the law's -/
theorem caps_eq {row : List Int} {gs : List (List Int × Int)} (nr : row.Nodup) (ng : ∀ g ∈ gs, g.1.Nodup) (off : List Int) : withinCaps row gs off = lGreedy row gs off := by
  have ok : ∀ (A : List Int) (c : Int), A.Nodup → capOk gs A c = !lFull gs A c := fun A c nA => by
    unfold capOk
    have e : ∀ g ∈ gs, (offer g.1 A).length = A.countP fun x => decide (x ∈ g.1) := fun g hg => by
      unfold offer
      rw [List.countP_eq_length_filter]
      refine List.Perm.length_eq ((List.perm_ext_iff_of_nodup ((ng g hg).filter _) (nA.filter _)).mpr fun x => ?_)
      simp only [List.mem_filter, decide_eq_true_eq]
      exact and_comm
    rw [Bool.eq_iff_iff, Bool.not_eq_true', ← Bool.not_eq_true, full_iff, List.all_eq_true]
    constructor
    · rintro h ⟨g, g1, g2, g3⟩
      have := h _ (List.mem_map.mpr ⟨g, List.mem_filter.mpr ⟨g1, decide_eq_true g2⟩, rfl⟩)
      have := of_decide_eq_true this
      rw [e g g1] at this
      omega
    · intro h x hx
      obtain ⟨g, hg, rfl⟩ := List.mem_map.mp hx
      obtain ⟨g1, g2⟩ := List.mem_filter.mp hg
      refine decide_eq_true (Classical.byContradiction fun z => h ⟨g, g1, of_decide_eq_true g2, ?_⟩)
      rw [e g g1] at z
      omega
  have go : ∀ (vs A : List Int), vs.Nodup → A.Nodup → (∀ x ∈ vs, x ∉ A) → capGo gs (offer vs off) A = vs.foldl (lGStep gs off) A := by
    intro vs
    induction vs with
    | nil => intro A _ _ _; rfl
    | cons v vs ih =>
      intro A nv nA d
      obtain ⟨n1, n2⟩ := List.nodup_cons.mp nv
      rw [List.foldl_cons]
      by_cases ho : v ∈ off
      · have e3 : offer (v :: vs) off = v :: offer vs off := by unfold offer; rw [List.filter_cons]; simp [ho]
        rw [e3, capGo, ok A v nA]
        have e : (if (!lFull gs A v) = true then A ++ [v] else A) = lGStep gs off A v := by unfold lGStep; simp [ho]
        rw [e]
        have hs : ∀ x, x ∈ lGStep gs off A v → x ∈ A ∨ x = v := fun x hx => by
          unfold lGStep at hx
          split at hx
          · simpa using hx
          · exact .inl hx
        refine ih _ n2 ?_ fun x hx z => ?_
        · unfold lGStep; split
          · exact List.nodup_append.mpr ⟨nA, by simp, fun x hx y hy z => by rw [List.mem_singleton.mp hy] at z; rw [z] at hx; exact d v List.mem_cons_self hx⟩
          · exact nA
        · rcases hs x z with q | q
          · exact d x (List.mem_cons_of_mem _ hx) q
          · rw [q] at hx; exact n1 hx
      · have e3 : offer (v :: vs) off = offer vs off := by unfold offer; rw [List.filter_cons]; simp [ho]
        have e : lGStep gs off A v = A := by unfold lGStep; simp [ho]
        rw [e3, e]
        exact ih A n2 nA fun x hx => d x (List.mem_cons_of_mem _ hx)
  unfold withinCaps
  rw [lGreedy_eq]
  exact go row [] nr List.nodup_nil fun _ _ => List.not_mem_nil
end N50
/-! text M2 -/
set_option maxHeartbeats 4000000
namespace N50
open PySem
/-! ### paired lists: makers and traders -/
def tkF (cond : Int → Int → Bool) : List Int → List Int → Nat → List Int
  | b :: bs, s :: ss, n + 1 => if cond b s = true then b :: tkF cond bs ss n else []
  | _, _, _ => []
def fl (cond : Int → Int → Bool) : Int → Int → Bool := fun x y => cond y x
def MoL (cond : Int → Int → Bool) (bs : List Int) : Prop := bs.Pairwise fun x y => ∀ d, cond y d = true → cond x d = true
abbrev MoR (cond : Int → Int → Bool) (ss : List Int) : Prop := MoL (fl cond) ss
variable {cond : Int → Int → Bool}
theorem tkF_nil1 (ss : List Int) (n : Nat) : tkF cond [] ss n = [] := by unfold tkF; rfl
theorem tkF_nil2 (bs : List Int) (n : Nat) : tkF cond bs [] n = [] := by cases bs <;> simp [tkF]
theorem tkF_zero (bs ss : List Int) : tkF cond bs ss 0 = [] := by cases bs <;> cases ss <;> simp [tkF]
theorem tkF_cons (b s : Int) (bs ss : List Int) (n : Nat) : tkF cond (b :: bs) (s :: ss) (n + 1) = if cond b s = true then b :: tkF cond bs ss n else [] := rfl
theorem tkF_sub : ∀ (bs ss : List Int) (n : Nat), (tkF cond bs ss n).Sublist bs
  | [], ss, n => by rw [tkF_nil1]; exact List.Sublist.slnil
  | b :: bs, [], n => by rw [tkF_nil2]; exact List.nil_sublist _
  | b :: bs, s :: ss, 0 => by rw [tkF_zero]; exact List.nil_sublist _
  | b :: bs, s :: ss, n + 1 => by
    rw [tkF_cons]
    split
    · exact (tkF_sub bs ss n).cons_cons b
    · exact List.nil_sublist _
theorem tkF_csc : ∀ (bs ss ss' : List Int) (n n' : Nat), MoR cond ss' → ss.Sublist ss' → n ≤ n' → ∀ c ∈ tkF cond bs ss n, c ∈ tkF cond bs ss' n'
  | [], ss, ss', n, n', _, _, _, c, h => by rw [tkF_nil1] at h; simp at h
  | b :: bs, [], ss', n, n', _, _, _, c, h => by rw [tkF_nil2] at h; simp at h
  | b :: bs, s :: ss, ss', 0, n', _, _, _, c, h => by rw [tkF_zero] at h; simp at h
  | b :: bs, s :: ss, [], n + 1, n', _, hs, _, c, h => by cases hs
  | b :: bs, s :: ss, y :: ss', n + 1, 0, _, _, hn, c, h => by omega
  | b :: bs, s :: ss, y :: ss', n + 1, n' + 1, m, hs, hn, c, h => by
    rw [tkF_cons] at h ⊢
    obtain ⟨m1, m2⟩ := List.pairwise_cons.mp m
    split at h
    · rename_i hc
      have key : cond b y = true ∧ ss.Sublist ss' := by
        rcases List.sublist_cons_iff.mp hs with z | ⟨r, e, z⟩
        · exact ⟨m1 s (z.subset List.mem_cons_self) b hc, (List.sublist_cons_self s ss).trans z⟩
        · cases e; exact ⟨hc, z⟩
      rw [if_pos key.1]
      rcases List.mem_cons.mp h with q | q
      · rw [q]; exact List.mem_cons_self
      · exact List.mem_cons_of_mem _ (tkF_csc bs ss ss' n n' m2 key.2 (by omega) c q)
    · simp at h
theorem tkF_sss : ∀ (bs' bs ss : List Int) (n : Nat), bs'.Nodup → MoR cond ss → bs.Sublist bs' → ∀ c ∈ bs, c ∈ tkF cond bs' ss n → c ∈ tkF cond bs ss n
  | [], bs, ss, n, _, _, _, c, hc, h => by rw [tkF_nil1] at h; simp at h
  | b :: bs', bs, [], n, _, _, _, c, hc, h => by rw [tkF_nil2] at h; simp at h
  | b :: bs', bs, s :: ss, 0, _, _, _, c, hc, h => by rw [tkF_zero] at h; simp at h
  | x :: bs', bs, s :: ss, n + 1, nd, m, hs, c, hc, h => by
    obtain ⟨n1, n2⟩ := List.nodup_cons.mp nd
    obtain ⟨m1, m2⟩ := List.pairwise_cons.mp m
    rw [tkF_cons] at h
    split at h
    · rename_i hx
      rcases List.sublist_cons_iff.mp hs with z | ⟨r, e, z⟩
      · have hne : c ≠ x := fun q => by rw [q] at hc; exact n1 (z.subset hc)
        have h := (List.mem_cons.mp h).resolve_left hne
        exact tkF_csc bs ss (s :: ss) n (n + 1) m (List.sublist_cons_self s ss) (by omega) c (tkF_sss bs' bs ss n n2 m2 z c hc h)
      · subst e
        rw [tkF_cons, if_pos hx]
        rcases List.mem_cons.mp h with q | q
        · rw [q]; exact List.mem_cons_self
        · rcases List.mem_cons.mp hc with q2 | q2
          · rw [q2]; exact List.mem_cons_self
          · exact List.mem_cons_of_mem _ (tkF_sss bs' r ss n n2 m2 z c q2 q)
    · simp at h
theorem tkF_irc : ∀ (bs bs' ss ss' : List Int) (n : Nat), bs.Nodup → ss.Nodup → MoL cond bs → MoR cond ss → bs'.Sublist bs → ss'.Sublist ss → (∀ c ∈ tkF cond bs ss n, c ∈ bs') → (∀ c ∈ tkF (fl cond) ss bs n, c ∈ ss') → tkF cond bs' ss' n = tkF cond bs ss n
  | [], bs', ss, ss', n, _, _, _, _, h1, _, _, _ => by rw [List.sublist_nil.mp h1, tkF_nil1, tkF_nil1]
  | b :: bs, bs', [], ss', n, _, _, _, _, _, h2, _, _ => by rw [List.sublist_nil.mp h2, tkF_nil2, tkF_nil2]
  | b :: bs, bs', s :: ss, ss', 0, _, _, _, _, _, _, _, _ => by rw [tkF_zero, tkF_zero]
  | b :: bs, bs', s :: ss, ss', n + 1, nb, ns, mb, ms, h1, h2, k1, k2 => by
    obtain ⟨nb1, nb2⟩ := List.nodup_cons.mp nb
    obtain ⟨ns1, ns2⟩ := List.nodup_cons.mp ns
    obtain ⟨mb1, mb2⟩ := List.pairwise_cons.mp mb
    obtain ⟨ms1, ms2⟩ := List.pairwise_cons.mp ms
    rw [tkF_cons] at k1 ⊢
    rw [tkF_cons] at k2
    by_cases hc : cond b s = true
    · rw [if_pos hc] at k1 ⊢
      rw [if_pos (show fl cond s b = true from hc)] at k2
      have ib := k1 b List.mem_cons_self
      have is := k2 s List.mem_cons_self
      rcases List.sublist_cons_iff.mp h1 with z | ⟨r, e, z⟩
      · exact (nb1 (z.subset ib)).elim
      · rcases List.sublist_cons_iff.mp h2 with y | ⟨t, f, y⟩
        · exact (ns1 (y.subset is)).elim
        · subst e f
          rw [tkF_cons, if_pos hc]
          congr 1
          refine tkF_irc bs r ss t n nb2 ns2 mb2 ms2 z y (fun c hc => ?_) fun c hc => ?_
          · refine (List.mem_cons.mp (k1 c (List.mem_cons_of_mem _ hc))).resolve_left fun q => ?_
            rw [q] at hc; exact nb1 ((tkF_sub bs ss n).subset hc)
          · refine (List.mem_cons.mp (k2 c (List.mem_cons_of_mem _ hc))).resolve_left fun q => ?_
            rw [q] at hc; exact ns1 ((tkF_sub ss bs n).subset hc)
    · rw [if_neg hc]
      match bs', ss', h1, h2 with
      | [], ss', _, _ => exact tkF_nil1 ..
      | x :: r, [], _, _ => exact tkF_nil2 ..
      | x :: r, y :: t, h1, h2 =>
        rw [tkF_cons, if_neg]
        intro z
        have hx : x = b ∨ x ∈ bs := List.mem_cons.mp (h1.subset List.mem_cons_self)
        have hy : y = s ∨ y ∈ ss := List.mem_cons.mp (h2.subset List.mem_cons_self)
        have z1 : cond b y = true := by
          rcases hx with q | q
          · rw [← q]; exact z
          · exact mb1 x q y z
        refine hc ?_
        rcases hy with q | q
        · rw [← q]; exact z1
        · exact ms1 y q b z1
theorem offer_sub {B Y Y' : List Int} (h : ∀ c ∈ B, c ∈ Y → c ∈ Y') : (offer B Y).Sublist (offer B Y') := by
  induction B with
  | nil => exact List.Sublist.slnil
  | cons b B ih =>
    have ih := ih fun c hc => h c (List.mem_cons_of_mem _ hc)
    unfold offer at ih ⊢
    rw [List.filter_cons, List.filter_cons]
    by_cases h1 : b ∈ Y
    · have h2 := h b List.mem_cons_self h1
      simp only [h1, h2, decide_true, if_true]
      exact ih.cons_cons b
    · simp only [h1, decide_false]
      by_cases h2 : b ∈ Y'
      · simp only [h2, decide_true, if_true]
        exact ih.cons b
      · simp only [h2, decide_false]
        exact ih
theorem offer_eq {B Y Y' : List Int} (h : ∀ c ∈ B, (c ∈ Y ↔ c ∈ Y')) : offer B Y = offer B Y' := List.filter_congr fun c hc => by rw [Bool.eq_iff_iff, decide_eq_true_iff, decide_eq_true_iff]; exact h c hc
theorem mem_offer {B Y : List Int} {c : Int} : c ∈ offer B Y ↔ c ∈ B ∧ c ∈ Y := by unfold offer; rw [List.mem_filter, decide_eq_true_iff]
theorem offer_self {B Z Y : List Int} (h : ∀ c ∈ Z, c ∈ Y) : True := trivial
def prF (cond : Int → Int → Bool) (B S : List Int) (n : Nat) (Y : List Int) : List Int := tkF cond (offer B Y) (offer S Y) n ++ tkF (fl cond) (offer S Y) (offer B Y) n
theorem gc_pair {B S : List Int} (n : Nat) (nb : B.Nodup) (ns : S.Nodup) (dj : ∀ c ∈ B, c ∉ S) (mb : MoL cond B) (ms : MoR cond S) : GC (fun c => c ∈ B) (fun c => c ∈ S) (prF cond B S n) := by
  have key : ∀ {cond : Int → Int → Bool} {B S : List Int} {F : List Int → List Int}, B.Nodup → (∀ c ∈ B, c ∉ S) → MoR cond S → (∀ Y c, c ∈ F Y ↔ c ∈ tkF cond (offer B Y) (offer S Y) n ∨ c ∈ tkF (fl cond) (offer S Y) (offer B Y) n) → GH (fun c => c ∈ B) (fun c => c ∈ S) F := fun {cond B S F} nb dj ms e => by
    have off : ∀ Y c, c ∈ B → c ∈ F Y → c ∈ tkF cond (offer B Y) (offer S Y) n := fun Y c hb hx => ((e Y c).mp hx).resolve_right fun z => dj c hb (mem_offer.mp ((tkF_sub _ _ _).subset z)).1
    refine ⟨fun Y Y' e1 e2 c hb hy hx => (e Y c).mpr (.inl ?_), fun Y Y' e1 e2 c hb hx => (e Y' c).mpr (.inl ?_)⟩
    · rw [offer_eq e1]
      exact tkF_sss _ _ _ n (nb.filter _) (ms.sublist List.filter_sublist) (offer_sub e2) c (mem_offer.mpr ⟨hb, hy⟩) (off Y' c hb hx)
    · rw [← offer_eq e1]
      exact tkF_csc _ _ _ n n (ms.sublist List.filter_sublist) (offer_sub e2) (Nat.le_refl _) c (off Y c hb hx)
  have mem : ∀ Y c, c ∈ prF cond B S n Y → c ∈ tkF cond (offer B Y) (offer S Y) n ∨ c ∈ tkF (fl cond) (offer S Y) (offer B Y) n := fun Y c h => List.mem_append.mp h
  refine ⟨fun Y => ?_, fun Y c hc => ?_, fun Y Z e1 e2 c => ?_, key nb dj ms fun Y c => List.mem_append, key (cond := fl cond) ns (fun c h z => dj c z h) mb fun Y c => by rw [prF, List.mem_append, or_comm]; rfl⟩
  · refine List.nodup_append.mpr ⟨(tkF_sub _ _ _).nodup (nb.filter _), (tkF_sub _ _ _).nodup (ns.filter _), fun x hx y hy z => ?_⟩
    rw [z] at hx
    exact dj y (mem_offer.mp ((tkF_sub _ _ _).subset hx)).1 (mem_offer.mp ((tkF_sub _ _ _).subset hy)).1
  · rcases mem Y c hc with h | h
    · have := mem_offer.mp ((tkF_sub _ _ _).subset h); exact ⟨this.2, .inl this.1⟩
    · have := mem_offer.mp ((tkF_sub _ _ _).subset h); exact ⟨this.2, .inr this.1⟩
  · have oB : (offer B Z).Sublist (offer B Y) := offer_sub fun c hc hz => e2 c hz (.inl hc)
    have oS : (offer S Z).Sublist (offer S Y) := offer_sub fun c hc hz => e2 c hz (.inr hc)
    have t1 : ∀ c ∈ tkF cond (offer B Y) (offer S Y) n, c ∈ offer B Z := fun c hc => mem_offer.mpr ⟨(mem_offer.mp ((tkF_sub _ _ _).subset hc)).1, e1 c (List.mem_append.mpr (.inl hc))⟩
    have t2 : ∀ c ∈ tkF (fl cond) (offer S Y) (offer B Y) n, c ∈ offer S Z := fun c hc => mem_offer.mpr ⟨(mem_offer.mp ((tkF_sub _ _ _).subset hc)).1, e1 c (List.mem_append.mpr (.inr hc))⟩
    have q1 := tkF_irc _ _ _ _ n (nb.filter _) (ns.filter _) (mb.sublist List.filter_sublist) (ms.sublist List.filter_sublist) oB oS t1 t2
    have q2 := tkF_irc (cond := fl cond) _ _ _ _ n (ns.filter _) (nb.filter _) (ms.sublist List.filter_sublist) (mb.sublist List.filter_sublist) oS oB t2 t1
    have : prF cond B S n Z = prF cond B S n Y := by
      unfold prF
      rw [q1, q2]
      rfl
    rw [this]
/-! ### makers -/
theorem tkF_all : ∀ (bs ss : List Int) (n : Nat), tkF (fun _ _ => true) bs ss n = bs.take (min n ss.length)
  | [], ss, n => by rw [tkF_nil1]; simp
  | b :: bs, [], n => by rw [tkF_nil2]; simp
  | b :: bs, s :: ss, 0 => by rw [tkF_zero]; simp
  | b :: bs, s :: ss, n + 1 => by
    rw [tkF_cons, if_pos rfl, tkF_all bs ss n, List.length_cons]
    rw [show min (n + 1) (ss.length + 1) = min n ss.length + 1 by omega, List.take_succ_cons]
theorem mn3_min (i j k : Int) : mn3 i j k = min i (min j k) := by unfold mn3; dsimp only; split <;> split <;> omega
theorem maker_take {room : Int} (h : 0 ≤ room) (bs ss : List Int) (k : Int) (hk : k = mn3 room bs.length ss.length ∨ k = mn3 bs.length ss.length room) : upTo bs k = tkF (fun _ _ => true) bs ss room.toNat ∧ upTo ss k = tkF (fl fun _ _ => true) ss bs room.toNat := by
  have e : k = min room (min bs.length ss.length) := by
    rcases hk with h | h <;> rw [h, mn3_min] <;> omega
  have e2 : fl (fun _ _ => true) = fun _ _ => true := rfl
  rw [e2, tkF_all, tkF_all, upTo_nn (by omega), upTo_nn (by omega)]
  constructor
  · by_cases hl : bs.length ≤ min room.toNat ss.length
    · rw [List.take_of_length_le (l := bs) (by omega), List.take_of_length_le (l := bs) (by omega)]
    · congr 1; omega
  · by_cases hl : ss.length ≤ min room.toNat bs.length
    · rw [List.take_of_length_le (l := ss) (by omega), List.take_of_length_le (l := ss) (by omega)]
    · congr 1; omega
theorem mo_all (bs : List Int) : MoL (fun _ _ => true) bs := by
  unfold MoL
  induction bs with
  | nil => exact List.Pairwise.nil
  | cons b bs ih => exact List.pairwise_cons.mpr ⟨fun _ _ _ _ => rfl, ih⟩
/-! ### traders -/
def tkP (cond : Int → Int → Bool) : List Int → List Int → Nat → List (Int × Int)
  | b :: bs, s :: ss, n + 1 => if cond b s = true then (b, s) :: tkP cond bs ss n else []
  | _, _, _ => []
theorem tkP_perm : ∀ (bs ss : List Int) (n : Nat), ((tkP cond bs ss n).flatMap fun q => [q.1, q.2]).Perm (tkF cond bs ss n ++ tkF (fl cond) ss bs n)
  | [], ss, n => by rw [tkF_nil1, tkF_nil2]; unfold tkP; simp
  | b :: bs, [], n => by rw [tkF_nil1, tkF_nil2]; unfold tkP; simp
  | b :: bs, s :: ss, 0 => by rw [tkF_zero, tkF_zero]; unfold tkP; simp
  | b :: bs, s :: ss, n + 1 => by
    rw [tkF_cons, tkF_cons, tkP]
    by_cases hc : cond b s = true
    · rw [if_pos hc, if_pos hc, if_pos (show fl cond s b = true from hc)]
      have ih := tkP_perm bs ss n
      rw [List.flatMap_cons]
      show (b :: s :: _).Perm (b :: (_ ++ s :: _))
      refine List.Perm.cons b ?_
      exact (List.Perm.cons s ih).trans List.perm_middle.symm
    · rw [if_neg hc, if_neg hc, if_neg (show ¬ fl cond s b = true from hc)]
      simp
theorem tkP_filter : ∀ (bs ss : List Int) (n : Nat), MoL cond bs → MoR cond ss → (((bs.zip ss).filter fun q => cond q.1 q.2).take n) = tkP cond bs ss n
  | [], ss, n, _, _ => by unfold tkP; simp
  | b :: bs, [], n, _, _ => by unfold tkP; simp
  | b :: bs, s :: ss, n, mb, ms => by
    obtain ⟨mb1, mb2⟩ := List.pairwise_cons.mp mb
    obtain ⟨ms1, ms2⟩ := List.pairwise_cons.mp ms
    rw [List.zip_cons_cons, List.filter_cons]
    by_cases hc : cond b s = true
    · rw [if_pos hc]
      cases n with
      | zero => unfold tkP; simp
      | succ n => rw [tkP, if_pos hc, List.take_succ_cons, tkP_filter bs ss n mb2 ms2]
    · rw [if_neg hc]
      have e : ((bs.zip ss).filter fun q => cond q.1 q.2) = [] := by
        refine List.filter_eq_nil_iff.mpr fun q hq z => hc ?_
        have h1 := List.of_mem_zip hq
        exact ms1 q.2 h1.2 b (mb1 q.1 h1.1 q.2 z)
      rw [e]
      cases n with
      | zero => unfold tkP; simp
      | succ n => rw [tkP, if_neg hc]; simp
section
variable (cs : List Con)
theorem leB_pw (b : List Int) : (b.mergeSort (leB cs)).Pairwise fun x y => leB cs x y = true := List.pairwise_mergeSort (fun a b c h1 h2 => by
  unfold leB at *; simp only [decide_eq_true_eq] at *; omega) (fun a b => by unfold leB; simp only [Bool.or_eq_true, decide_eq_true_eq]; omega) b
theorem leS_pw (b : List Int) : (b.mergeSort (leS cs)).Pairwise fun x y => leS cs x y = true := List.pairwise_mergeSort (fun a b c h1 h2 => by
  unfold leS at *; simp only [decide_eq_true_eq] at *; omega) (fun a b => by unfold leS; simp only [Bool.or_eq_true, decide_eq_true_eq]; omega) b
theorem leB_offer (b off : List Int) : (offer b off).mergeSort (leB cs) = offer (b.mergeSort (leB cs)) off :=
  List.Perm.eq_of_pairwise (le := fun x y => leB cs x y = true) (fun x y _ _ h1 h2 => by unfold leB at h1 h2; simp only [decide_eq_true_eq] at h1 h2; omega) (leB_pw cs _) ((leB_pw cs b).sublist List.filter_sublist) ((List.mergeSort_perm ..).trans ((List.mergeSort_perm ..).symm.filter _))
theorem leS_offer (b off : List Int) : (offer b off).mergeSort (leS cs) = offer (b.mergeSort (leS cs)) off :=
  List.Perm.eq_of_pairwise (le := fun x y => leS cs x y = true) (fun x y _ _ h1 h2 => by unfold leS at h1 h2; simp only [decide_eq_true_eq] at h1 h2; omega) (leS_pw cs _) ((leS_pw cs b).sublist List.filter_sublist) ((List.mergeSort_perm ..).trans ((List.mergeSort_perm ..).symm.filter _))
def tcond (cost : Int) (x y : Int) : Bool := decide (price cs x + cost < price cs y)
theorem mo_B (cost : Int) (b : List Int) : MoL (tcond cs cost) (b.mergeSort (leB cs)) := (leB_pw cs b).imp fun {x y} h d hd => by
  unfold leB at h; unfold tcond at *; simp only [decide_eq_true_eq] at *; omega
theorem mo_S (cost : Int) (b : List Int) : MoR (tcond cs cost) (b.mergeSort (leS cs)) := (leS_pw cs b).imp fun {x y} h d hd => by
  unfold leS at h; unfold fl tcond at *; simp only [decide_eq_true_eq] at *; omega
theorem traded_eq {room : Int} (h : 0 ≤ room) (cost : Int) (b s off : List Int) : traded cs room cost b s off = (tkP (tcond cs cost) (offer (b.mergeSort (leB cs)) off) (offer (s.mergeSort (leS cs)) off) room.toNat).flatMap fun q => [q.1, q.2] := by
  unfold traded
  dsimp only
  rw [leB_offer, leS_offer, upTo_nn h]
  have := tkP_filter (cond := tcond cs cost) (offer (b.mergeSort (leB cs)) off) (offer (s.mergeSort (leS cs)) off) room.toNat ((mo_B cs cost b).sublist List.filter_sublist) ((mo_S cs cost s).sublist List.filter_sublist)
  rw [← this]
  rfl
theorem pairsGo_eq (cost : Int) : ∀ (bs ss : List Int) (n : Nat) (fo : List Int), lPairsGo cost ((((bs.map fun c => (price cs c, c)).zip (ss.map fun c => (-price cs c, c)))).take n) fo = fo ++ (tkP (tcond cs cost) bs ss n).flatMap fun q => [q.1, q.2]
  | [], ss, n, fo => by unfold tkP; simp [lPairsGo]
  | b :: bs, [], n, fo => by unfold tkP; simp [lPairsGo]
  | b :: bs, s :: ss, 0, fo => by unfold tkP; simp [lPairsGo]
  | b :: bs, s :: ss, n + 1, fo => by
    rw [List.map_cons, List.map_cons, List.zip_cons_cons, List.take_succ_cons, lPairsGo, tkP]
    dsimp only
    by_cases hc : price cs b + cost < price cs s
    · rw [if_neg (by omega), if_pos (show tcond cs cost b s = true from decide_eq_true hc), pairsGo_eq cost bs ss n]
      rw [List.flatMap_cons]
      simp
    · rw [if_pos (by omega), if_neg (show ¬ tcond cs cost b s = true from fun z => hc (of_decide_eq_true z))]
      simp
theorem tkP_min : ∀ (bs ss : List Int) (n m : Nat), m = min n (min bs.length ss.length) → tkP cond bs ss m = tkP cond bs ss n
  | [], ss, n, m, _ => by unfold tkP; simp
  | b :: bs, [], n, m, _ => by unfold tkP; simp
  | b :: bs, s :: ss, 0, m, h => by have : m = 0 := by omega
                                    rw [this]
  | b :: bs, s :: ss, n + 1, m, h => by
    have : m = min n (min bs.length ss.length) + 1 := by simp only [List.length_cons] at h; omega
    rw [this, tkP, tkP, tkP_min bs ss n _ rfl]
theorem lTraded_eq {room : Int} (h : 0 ≤ room) (cost : Int) (b s off : List Int) : lTraded cs room cost b s off = traded cs room cost b s off := by
  rw [traded_eq cs h]
  have eB : lPB cs b off = (offer (b.mergeSort (leB cs)) off).map fun c => (price cs c, c) := by
    unfold lPB
    rw [← leB_offer, List.map_mergeSort (s := fun p q : Int × Int => decide (p.1 < q.1 ∨ (p.1 = q.1 ∧ p.2 ≤ q.2)))]
    intro a _ b _; rfl
  have eS : lPS cs s off = (offer (s.mergeSort (leS cs)) off).map fun c => (-price cs c, c) := by
    unfold lPS
    rw [← leS_offer, List.map_mergeSort (s := fun p q : Int × Int => decide (p.1 < q.1 ∨ (p.1 = q.1 ∧ p.2 ≤ q.2)))]
    intro a _ b _; rfl
  unfold lTraded
  rw [eB, eS, pairsGo_eq, List.nil_append]
  congr 1
  refine tkP_min _ _ _ _ ?_
  rw [mn3_min, List.length_map, List.length_map]
  omega
end
end N50
/-! text M3 -/
set_option maxHeartbeats 4000000
namespace N50
open PySem PySem.W PyProof.Rows
theorem isort_nodup {ns : List Int} (h : ns.Nodup) : (isort ns).Nodup := (isort_perm ns).nodup_iff.mpr h
theorem isort_pw (ns : List Int) : (isort ns).Pairwise (· ≤ ·) := by
  have := List.pairwise_mergeSort (le := fun a b : Int => decide (a ≤ b)) (fun a b c h1 h2 => by simp only [decide_eq_true_eq] at *; omega) (fun a b => by simp only [Bool.or_eq_true, decide_eq_true_eq]; omega) ns
  exact this.imp fun h => of_decide_eq_true h
theorem isort_eq {ns ms : List Int} (p : ms.Perm ns) (s : ms.Pairwise (· ≤ ·)) : ms = isort ns :=
  List.Perm.eq_of_pairwise (le := (· ≤ ·)) (fun a b _ _ h1 h2 => by omega) s (isort_pw ns) (p.trans (isort_perm ns).symm)
theorem isort_congr {ns ms : List Int} (p : ms.Perm ns) : isort ms = isort ns := isort_eq ((isort_perm ms).trans p) (isort_pw ms)
theorem isort_isort (ns : List Int) : isort (isort ns) = isort ns := isort_congr (isort_perm ns)
theorem isort_sets {ns ms : List Int} (n : ns.Nodup) (m : ms.Nodup) (h : ∀ c, c ∈ ns ↔ c ∈ ms) : isort ns = isort ms := isort_congr ((List.perm_ext_iff_of_nodup n m).mpr h)
theorem perm_sum {a b : List Int} (h : a.Perm b) : a.sum = b.sum := by
  induction h with
  | nil => rfl
  | cons x _ ih => simp [ih]
  | swap x y l => simp; omega
  | trans _ _ h1 h2 => exact h1.trans h2
/-! ### the least sum -/
theorem sum_sub (p : Int → Int) : ∀ (L M : List Int), L.Pairwise (fun x y => p x < p y) → M.Sublist L → ((L.take M.length).map p).sum ≤ (M.map p).sum ∧ ((M.map p).sum ≤ ((L.take M.length).map p).sum → M = L.take M.length)
  | L, [], _, _ => by simp
  | [], m :: M, _, h => by cases h
  | x :: L, m :: M, pw, h => by
    obtain ⟨p1, p2⟩ := List.pairwise_cons.mp pw
    rw [List.length_cons, List.take_succ_cons, List.map_cons, List.map_cons, List.sum_cons, List.sum_cons]
    rcases List.sublist_cons_iff.mp h with z | ⟨r, e, z⟩
    · have hm := p1 m (z.subset List.mem_cons_self)
      have ih := (sum_sub p L M p2 ((List.sublist_cons_self m M).trans z)).1
      exact ⟨by omega, fun q => by omega⟩
    · cases e
      have ih := sum_sub p L M p2 z
      exact ⟨by omega, fun q => by rw [← ih.2 (by omega)]⟩
theorem idx_pw : ∀ {b : List Int}, b.Nodup → b.Pairwise fun x y => ((b.idxOf x : Nat) : Int) < (b.idxOf y : Nat)
  | [], _ => List.Pairwise.nil
  | x :: b, n => by
    obtain ⟨n1, n2⟩ := List.nodup_cons.mp n
    have ne : ∀ y ∈ b, (x :: b).idxOf y = b.idxOf y + 1 := fun y hy => by
      rw [List.idxOf_cons]
      have : (x == y) = false := by simpa using fun q : x = y => n1 (by rw [q]; exact hy)
      rw [this]; rfl
    refine List.pairwise_cons.mpr ⟨fun y hy => ?_, ?_⟩
    · rw [ne y hy, List.idxOf_cons_self]; omega
    · exact (idx_pw n2).imp_of_mem fun {y z} hy hz h => by rw [ne y hy, ne z hz]; omega
/-! ### the table of a choice -/
structure TkOk (b s : List Int) (T : List Int → List Int) (kB kS : List Int → Nat) : Prop where
  nb : b.Nodup
  ns : s.Nodup
  dj : ∀ c ∈ b, c ∉ s
  pm : ∀ Y, (T Y).Perm ((offer b Y).take (kB Y) ++ (offer s Y).take (kS Y))
  lB : ∀ Y, kB Y ≤ (offer b Y).length
  lS : ∀ Y, kS Y ≤ (offer s Y).length
  mB : ∀ R Y, (∀ c ∈ R, c ∈ Y) → kB R ≤ kB Y
  mS : ∀ R Y, (∀ c ∈ R, c ∈ Y) → kS R ≤ kS Y
theorem TkOk.opt {b s : List Int} {T : List Int → List Int} {kB kS : List Int → Nat} (h : TkOk b s T kB kS) {R Y : List Int} (hR : ∀ c ∈ R, c ∈ Y) :
    (T R).length ≤ (T Y).length ∧ ((T Y).length ≤ (T R).length → ((T Y).map (lPlace (b, s))).sum ≤ ((T R).map (lPlace (b, s))).sum ∧ (((T R).map (lPlace (b, s))).sum ≤ ((T Y).map (lPlace (b, s))).sum → (T R).Perm (T Y))) := by
  have len : ∀ Y, (T Y).length = kB Y + kS Y := fun Y => by
    rw [(h.pm Y).length_eq, List.length_append, List.length_take, List.length_take]
    have := h.lB Y
    have := h.lS Y
    omega
  have sm : ∀ Y, ((T Y).map (lPlace (b, s))).sum = (((offer b Y).take (kB Y)).map (lPlace (b, s))).sum + (((offer s Y).take (kS Y)).map (lPlace (b, s))).sum := fun Y => by
    rw [perm_sum ((h.pm Y).map (lPlace (b, s))), List.map_append, List.sum_append]
  have m1 := h.mB R Y hR
  have m2 := h.mS R Y hR
  refine ⟨by rw [len, len]; omega, fun hl => ?_⟩
  rw [len, len] at hl
  have e1 : kB Y = kB R := by omega
  have e2 : kS Y = kS R := by omega
  have pb : (offer b Y).Pairwise fun x y => lPlace (b, s) x < lPlace (b, s) y := (((idx_pw h.nb).imp_of_mem fun {x y} hx hy q => by
    unfold lPlace; rw [if_neg (h.dj x hx), if_neg (h.dj y hy)]; exact q).sublist List.filter_sublist)
  have ps : (offer s Y).Pairwise fun x y => lPlace (b, s) x < lPlace (b, s) y := (((idx_pw h.ns).imp_of_mem fun {x y} hx hy q => by
    unfold lPlace; rw [if_pos hx, if_pos hy]; exact q).sublist List.filter_sublist)
  have tb := sum_sub (lPlace (b, s)) _ ((offer b R).take (kB R)) pb ((List.take_sublist ..).trans (offer_sub fun c _ => hR c))
  have ts := sum_sub (lPlace (b, s)) _ ((offer s R).take (kS R)) ps ((List.take_sublist ..).trans (offer_sub fun c _ => hR c))
  rw [List.length_take, Nat.min_eq_left (h.lB R), ← e1] at tb
  rw [List.length_take, Nat.min_eq_left (h.lS R), ← e2] at ts
  rw [sm Y, sm R, ← e1, ← e2]
  refine ⟨by omega, fun q => ?_⟩
  have q1 := tb.2 (by omega)
  have q2 := ts.2 (by omega)
  refine (h.pm R).trans (List.Perm.trans ?_ (h.pm Y).symm)
  rw [← e1, ← e2, q1, q2]
theorem subs_mem {Y : List Int} : ∀ (cs : List Int) (acc : List (List Int)) (r : List Int), r ∈ acc → r ++ offer cs Y ∈ cs.foldl (fun fo c => fo ++ fo.map fun r => r ++ [c]) acc
  | [], acc, r, h => by unfold offer; simpa using h
  | c :: cs, acc, r, h => by
    rw [List.foldl_cons]
    by_cases hc : c ∈ Y
    · have e : offer (c :: cs) Y = c :: offer cs Y := by unfold offer; rw [List.filter_cons]; simp [hc]
      rw [e, List.append_cons]
      exact subs_mem cs _ _ (List.mem_append.mpr (.inr (List.mem_map.mpr ⟨r, h, rfl⟩)))
    · have e : offer (c :: cs) Y = offer cs Y := by unfold offer; rw [List.filter_cons]; simp [hc]
      rw [e]
      exact subs_mem cs _ _ (List.mem_append.mpr (.inl h))
theorem offer_subs (cs Y : List Int) : offer cs Y ∈ lSubsets cs := by
  unfold lSubsets
  rw [(List.mergeSort_perm ..).mem_iff]
  have := subs_mem (Y := Y) cs [[]] [] (by simp)
  simpa [subs] using this
theorem rows_mem (c : Pl) : ∀ (offs : List (List Int)) (acc : List (Int × Int × List Int)) (t : Int × Int × List Int), t ∈ offs.foldl (lRowStep c) acc ↔ t ∈ acc ∨ ∃ off ∈ offs, lChooseP [] c off ≠ [] ∧ t = lRowOf c off
  | [], acc, t => by simp
  | o :: offs, acc, t => by
    rw [List.foldl_cons, rows_mem c offs]
    have e : t ∈ lRowStep c acc o ↔ t ∈ acc ∨ (lChooseP [] c o ≠ [] ∧ t = lRowOf c o) := by
      unfold lRowStep
      by_cases h1 : lChooseP [] c o = []
      · simp [h1]
      · have h1' : 0 < (lChooseP [] c o).length := List.length_pos_iff.mpr h1
        by_cases h2 : lRowOf c o ∈ acc
        · simp [h1, h1', h2]
          intro z; rw [z]; exact h2
        · simp [h1, h1', h2]
    rw [e]
    constructor
    · rintro ((h | h) | ⟨off, h1, h2⟩)
      · exact .inl h
      · exact .inr ⟨o, List.mem_cons_self, h⟩
      · exact .inr ⟨off, List.mem_cons_of_mem _ h1, h2⟩
    · rintro (h | ⟨off, h1, h2⟩)
      · exact .inl (.inl h)
      · rcases List.mem_cons.mp h1 with q | q
        · rw [q] at h2; exact .inl (.inr h2)
        · exact .inr ⟨off, q, h2⟩
theorem triLe_lex {a b : Int × Int × List Int} (h : triLe a b = true) : a.1 < b.1 ∨ (a.1 = b.1 ∧ a.2.1 ≤ b.2.1) := by
  have h1 : (!lexLt itemOrd (Sum.inl 1 :: Sum.inl b.1 :: Sum.inl 1 :: Sum.inl b.2.1 :: Sum.inl 1 :: (keyToks (.tuple (b.2.2.map .int)) ++ [Sum.inl 0])) (Sum.inl 1 :: Sum.inl a.1 :: Sum.inl 1 :: Sum.inl a.2.1 :: Sum.inl 1 :: (keyToks (.tuple (a.2.2.map .int)) ++ [Sum.inl 0]))) = true := h
  have it : ∀ x y : Int, itemLt (Sum.inl x) (Sum.inl y) = decide (x < y) := fun _ _ => rfl
  rw [lex_cons, lex_cons, lex_cons, lex_cons] at h1
  simp only [it] at h1
  by_cases c1 : a.1 < b.1
  · exact .inl c1
  · by_cases c2 : b.1 < a.1
    · simp [c1, c2] at h1
    · right
      refine ⟨by omega, Classical.byContradiction fun c3 => ?_⟩
      have c4 : b.2.1 < a.2.1 := by omega
      simp [c1, c2, c4] at h1
theorem triLe_pw (l : List (Int × Int × List Int)) : (l.mergeSort triLe).Pairwise fun a b => triLe a b = true :=
  have T : TotalLe triLe := sortLe_total (listOrd itemOrd) false fun q : Int × Int × List Int => keyToks (PyData.tuple [.int q.1, .int q.2.1, .tuple (q.2.2.map .int)])
  List.pairwise_mergeSort T.trans (fun a b => by rw [Bool.or_eq_true]; exact T.total a b) l
theorem row_in {r Y : List Int} : (r.map fun x => decide (x ∈ Y)).all id = true ↔ ∀ c ∈ r, c ∈ Y := by simp
theorem chosenRow_first : ∀ (ts : List (Int × Int × List Int)) (Y : List Int), ts.Pairwise (fun a b => triLe a b = true) →
    (chosenRow (ts.map fun q => q.2.2) Y = [] ∧ ∀ t ∈ ts, ¬ ∀ c ∈ t.2.2, c ∈ Y) ∨ ∃ t ∈ ts, chosenRow (ts.map fun q => q.2.2) Y = t.2.2 ∧ (∀ c ∈ t.2.2, c ∈ Y) ∧ ∀ u ∈ ts, (∀ c ∈ u.2.2, c ∈ Y) → u = t ∨ triLe t u = true
  | [], Y, _ => .inl ⟨rfl, by simp⟩
  | t :: ts, Y, pw => by
    obtain ⟨p1, p2⟩ := List.pairwise_cons.mp pw
    rw [List.map_cons, chosenRow]
    by_cases h : ∀ c ∈ t.2.2, c ∈ Y
    · rw [if_pos (row_in.mpr h)]
      refine .inr ⟨t, List.mem_cons_self, rfl, h, fun u hu _ => ?_⟩
      rcases List.mem_cons.mp hu with q | q
      · exact .inl q
      · exact .inr (p1 u q)
    · rw [if_neg fun z => h (row_in.mp z)]
      rcases chosenRow_first ts Y p2 with ⟨e, z⟩ | ⟨u, h1, h2, h3, h4⟩
      · refine .inl ⟨e, fun u hu => ?_⟩
        rcases List.mem_cons.mp hu with q | q
        · rw [q]; exact h
        · exact z u q
      · refine .inr ⟨u, List.mem_cons_of_mem _ h1, h2, h3, fun v hv k => ?_⟩
        rcases List.mem_cons.mp hv with q | q
        · rw [q] at k; exact (h k).elim
        · exact h4 v q k
/-- a table chooses as the choice of which it is made -/
theorem table_eq {c : Pl} {b s : List Int} {kB kS : List Int → Nat} (hs : lSidesOf c = (b, s)) (K : TkOk b s (lChooseP [] c) kB kS) (G : GC (fun x => x ∈ b) (fun x => x ∈ s) (lChooseP [] c)) (pw : ∀ Y, (lChooseP [] c Y).Pairwise (· ≤ ·)) (Y : List Int) : chosenRow (lTable c) Y = lChooseP [] c Y := by
  generalize hT : lChooseP [] c = T at *
  have eqT : ∀ Y Z, (∀ x, x ∈ T Y ↔ x ∈ T Z) → T Y = T Z := fun Y Z h => List.Perm.eq_of_pairwise (le := (· ≤ ·)) (fun a b _ _ h1 h2 => by omega) (pw Y) (pw Z) ((List.perm_ext_iff_of_nodup (G.nd Y) (G.nd Z)).mpr h)
  have fix : ∀ Z, T (T Z) = T Z := fun Z => eqT _ _ fun x => G.irc Z (T Z) (fun c h => h) (fun c h _ => (G.sub Z c h).1) x
  have eqR : ∀ off, lRowOf c off = (-(((T off).length : Nat) : Int), ((T off).map (lPlace (b, s))).sum, T off) := fun off => by unfold lRowOf; rw [hT, hs]
  have rm : ∀ t, t ∈ ((lSubsets (isort ((lSidesOf c).1 ++ (lSidesOf c).2))).foldl (lRowStep c) []).mergeSort triLe ↔ ∃ off ∈ lSubsets (isort ((lSidesOf c).1 ++ (lSidesOf c).2)), T off ≠ [] ∧ t = lRowOf c off := fun t => by
    rw [(List.mergeSort_perm ..).mem_iff, rows_mem, hT]; simp
  unfold lTable
  have hz : ∀ Z, offer (isort ((lSidesOf c).1 ++ (lSidesOf c).2)) Z ∈ lSubsets (isort ((lSidesOf c).1 ++ (lSidesOf c).2)) := fun Z => offer_subs _ _
  have ez : ∀ Z, T (offer (isort ((lSidesOf c).1 ++ (lSidesOf c).2)) Z) = T Z := fun Z => eqT _ _ fun x => G.cong (fun x hx => by
    rw [mem_offer, isort_mem, hs, List.mem_append]
    exact ⟨fun h => ⟨hx, h⟩, fun h => h.2⟩) x
  rcases chosenRow_first _ Y (triLe_pw _) with ⟨e, z⟩ | ⟨t, h1, h2, h3, h4⟩
  · rw [e]
    refine Classical.byContradiction fun ne => ?_
    have ne : T Y ≠ [] := fun z => ne z.symm
    refine z _ ((rm _).mpr ⟨_, hz Y, by rw [ez]; exact ne, rfl⟩) fun x hx => ?_
    rw [eqR] at hx
    have hx : x ∈ T (offer (isort ((lSidesOf c).1 ++ (lSidesOf c).2)) Y) := hx
    rw [ez] at hx
    exact (G.sub Y x hx).1
  · rw [h2]
    obtain ⟨off, o1, o2, o3⟩ := (rm t).mp h1
    rw [eqR] at o3
    have ht : t.2.2 = T off := by rw [o3]
    rw [ht] at h3 ⊢
    have op := K.opt (R := T off) (Y := Y) h3
    rw [fix] at op
    have hne : T Y ≠ [] := fun z => by
      rw [z] at op
      have := op.1
      exact o2 (List.length_eq_zero_iff.mp (by simpa using this))
    have le : -(((T off).length : Nat) : Int) < -(((T Y).length : Nat) : Int) ∨ (-(((T off).length : Nat) : Int) = -(((T Y).length : Nat) : Int) ∧ ((T off).map (lPlace (b, s))).sum ≤ ((T Y).map (lPlace (b, s))).sum) := by
      rcases h4 _ ((rm _).mpr ⟨_, hz Y, by rw [ez]; exact hne, rfl⟩) (by
        rw [eqR]
        show ∀ x ∈ T (offer _ Y), x ∈ Y
        rw [ez]; exact fun x hx => (G.sub Y x hx).1) with q | q
      · rw [eqR, ez, o3] at q
        injection q with q1 q2
        injection q2 with q2 q3
        exact .inr ⟨q1.symm, by rw [q2]; exact Int.le_refl _⟩
      · have := triLe_lex q
        rw [eqR, ez, o3] at this
        exact this
    have l1 := op.1
    have q : (T Y).length ≤ (T off).length := by omega
    have := (op.2 q).2 (by omega)
    exact List.Perm.eq_of_pairwise (le := (· ≤ ·)) (fun a b _ _ h1 h2 => by omega) (pw off) (pw Y) this
end N50
/-! text M4 -/
set_option maxHeartbeats 4000000
namespace N50
open PySem
def PG (b s : Int → Prop) (cs : List Con) (c : Pl) : Prop := GC b s (chosenP cs c) ∧ ∀ Y, lChooseP cs c Y = isort (chosenP cs c Y)
def CG (b s : Int → Prop) (cs : List Con) (c : Ch) : Prop := GC b s (chosenC cs c) ∧ ∀ Y, lChoose cs c Y = isort (chosenC cs c Y)
theorem PG.wide {b s b' s' : Int → Prop} {cs : List Con} {c : Pl} (h : PG b s cs c) (hb : ∀ c, b c → b' c) (hs : ∀ c, s c → s' c) (dj : ∀ c, b' c → ¬ s' c) : PG b' s' cs c := ⟨h.1.wide hb hs dj, h.2⟩
section
variable {b s : List Int} (cs : List Con)
theorem pg_sides (nb : b.Nodup) (ns : s.Nodup) (dj : ∀ c ∈ b, c ∉ s) {br sr : Int} (h1 : 0 ≤ br) (h2 : 0 ≤ sr) : PG (fun c => c ∈ b) (fun c => c ∈ s) cs (.sides br b sr s) :=
  ⟨GC.sides (sd_first nb h1) (sd_first ns h2) dj, fun _ => rfl⟩
theorem maker_eq {room : Int} (h : 0 ≤ room) : chosenP cs (.maker room b s) = prF (fun _ _ => true) b s room.toNat := funext fun Y => by
  have := maker_take h (offer b Y) (offer s Y) _ (.inl rfl)
  show upTo _ _ ++ upTo _ _ = _
  rw [this.1, this.2]
  rfl
theorem lmaker_eq {room : Int} (h : 0 ≤ room) (Y : List Int) : lChooseP cs (.maker room b s) Y = isort (chosenP cs (.maker room b s) Y) := by
  have t1 := maker_take h (offer b Y) (offer s Y) _ (.inl rfl)
  have t2 := maker_take h (offer b Y) (offer s Y) _ (.inr rfl)
  show isort (upTo _ _ ++ upTo _ _) = isort (upTo _ _ ++ upTo _ _)
  rw [t1.1, t1.2, t2.1, t2.2]
theorem pg_maker (nb : b.Nodup) (ns : s.Nodup) (dj : ∀ c ∈ b, c ∉ s) {room : Int} (h : 0 ≤ room) : PG (fun c => c ∈ b) (fun c => c ∈ s) cs (.maker room b s) :=
  ⟨by rw [maker_eq cs h]; exact gc_pair _ nb ns dj (mo_all b) (mo_all s), lmaker_eq cs h⟩
theorem pg_trader (nb : b.Nodup) (ns : s.Nodup) (dj : ∀ c ∈ b, c ∉ s) {room : Int} (h : 0 ≤ room) (cost : Int) : PG (fun c => c ∈ b) (fun c => c ∈ s) cs (.trader room cost b s) := by
  have pb := List.mergeSort_perm b (leB cs)
  have ps := List.mergeSort_perm s (leS cs)
  have g := gc_pair (cond := tcond cs cost) room.toNat (pb.nodup_iff.mpr nb) (ps.nodup_iff.mpr ns) (fun c h1 h2 => dj c (pb.mem_iff.mp h1) (ps.mem_iff.mp h2)) (mo_B cs cost b) (mo_S cs cost s)
  have pm : ∀ Y, (chosenP cs (.trader room cost b s) Y).Perm (prF (tcond cs cost) (b.mergeSort (leB cs)) (s.mergeSort (leS cs)) room.toNat Y) := fun Y => by
    show (traded cs room cost b s Y).Perm _
    rw [traded_eq cs h]
    exact tkP_perm _ _ _
  refine ⟨?_, fun Y => ?_⟩
  · refine (g.same (fun Y c => (pm Y).mem_iff) fun Y => (pm Y).nodup_iff.mpr (g.nd Y)).wide (fun c h => pb.mem_iff.mp h) (fun c h => ps.mem_iff.mp h) dj
  · show isort _ = isort (traded _ _ _ _ _ _)
    rw [lTraded_eq cs h]
theorem pg_caps (nb : b.Nodup) (ns : s.Nodup) (dj : ∀ c ∈ b, c ∉ s) {bg sg : List (List Int × Int)} (h1 : Lam bg) (h2 : Lam sg) (n1 : ∀ g ∈ bg, g.1.Nodup) (n2 : ∀ g ∈ sg, g.1.Nodup) : PG (fun c => c ∈ b) (fun c => c ∈ s) cs (.caps b bg s sg) := by
  have e : chosenP cs (.caps b bg s sg) = fun Y => lGreedy b bg Y ++ lGreedy s sg Y := funext fun Y => by
    show withinCaps _ _ _ ++ withinCaps _ _ _ = _
    rw [caps_eq nb n1, caps_eq ns n2]
  refine ⟨?_, fun Y => ?_⟩
  · rw [e]; exact GC.sides (sd_greedy nb h1) (sd_greedy ns h2) dj
  · rw [e]; rfl
/-- makers and houses of sides -/
inductive MS (b s : List Int) : Pl → Prop
  | maker {room : Int} : 0 ≤ room → MS b s (.maker room b s)
  | sides {br sr : Int} : 0 ≤ br → 0 ≤ sr → MS b s (.sides br b sr s)
theorem ms_pg (nb : b.Nodup) (ns : s.Nodup) (dj : ∀ c ∈ b, c ∉ s) {c : Pl} (h : MS b s c) : PG (fun c => c ∈ b) (fun c => c ∈ s) cs c := by
  cases h with
  | maker h => exact pg_maker cs nb ns dj h
  | sides h1 h2 => exact pg_sides cs nb ns dj h1 h2
theorem ms_sides {c : Pl} (h : MS b s c) : lSidesOf c = (b, s) := by cases h <;> rfl
theorem ms_cs {c : Pl} (h : MS b s c) (Y : List Int) : lChooseP [] c Y = isort (chosenP cs c Y) := by
  cases h with
  | maker h => rw [lmaker_eq [] h]; rfl
  | sides h1 h2 => rfl
theorem ms_tk (nb : b.Nodup) (ns : s.Nodup) (dj : ∀ c ∈ b, c ∉ s) {c : Pl} (h : MS b s c) : ∃ kB kS, TkOk b s (lChooseP [] c) kB kS := by
  have mono : ∀ (r : List Int) (R Y : List Int), (∀ c ∈ R, c ∈ Y) → (offer r R).length ≤ (offer r Y).length := fun r R Y h => (offer_sub fun c _ => h c).length_le
  cases h with
  | @maker room h =>
    refine ⟨fun Y => min room.toNat (min (offer b Y).length (offer s Y).length), fun Y => min room.toNat (min (offer b Y).length (offer s Y).length), nb, ns, dj, fun Y => ?_, fun Y => ?_, fun Y => ?_, fun R Y hR => ?_, fun R Y hR => ?_⟩
    · refine (isort_perm _).trans ?_
      have k : mn3 (offer b Y).length (offer s Y).length room = (min room.toNat (min (offer b Y).length (offer s Y).length) : Nat) := by rw [mn3_min]; omega
      rw [k, upTo_nn (by omega), upTo_nn (by omega)]
      rw [Int.toNat_natCast]
    · omega
    · omega
    · have := mono b R Y hR; have := mono s R Y hR; omega
    · have := mono b R Y hR; have := mono s R Y hR; omega
  | @sides br sr h1 h2 =>
    refine ⟨fun Y => min br.toNat (offer b Y).length, fun Y => min sr.toNat (offer s Y).length, nb, ns, dj, fun Y => ?_, fun Y => ?_, fun Y => ?_, fun R Y hR => ?_, fun R Y hR => ?_⟩
    · refine (isort_perm _).trans ?_
      rw [upTo_nn h1, upTo_nn h2]
      have t : ∀ (l : List Int) (n : Nat), l.take n = l.take (min n l.length) := fun l n => by
        by_cases q : n ≤ l.length
        · rw [Nat.min_eq_left q]
        · rw [List.take_of_length_le (by omega), List.take_of_length_le (by omega)]
      rw [t (offer b Y), t (offer s Y)]
    · omega
    · omega
    · have := mono b R Y hR; omega
    · have := mono s R Y hR; omega
theorem pg_table (nb : b.Nodup) (ns : s.Nodup) (dj : ∀ c ∈ b, c ∉ s) {c : Pl} (h : MS b s c) : PG (fun c => c ∈ b) (fun c => c ∈ s) cs (.table (lTable c)) := by
  obtain ⟨kB, kS, T⟩ := ms_tk nb ns dj h
  have g := (ms_pg [] nb ns dj h).1
  have e2 : ∀ Y, lChooseP [] c Y = isort (chosenP [] c Y) := ms_cs [] h
  have g2 : GC (fun c => c ∈ b) (fun c => c ∈ s) (lChooseP [] c) := g.same (fun Y x => by rw [e2, isort_mem]) fun Y => by rw [e2]; exact isort_nodup (g.nd Y)
  have e : ∀ Y, chosenRow (lTable c) Y = lChooseP [] c Y := table_eq (ms_sides h) T g2 fun Y => by rw [e2]; exact isort_pw _
  refine ⟨?_, fun Y => ?_⟩
  · have : chosenP cs (.table (lTable c)) = lChooseP [] c := funext e
    rw [this]; exact g2
  · show chosenRow _ _ = isort (chosenRow _ _)
    rw [e, e2, isort_isort]
end
/-! ### the tables that aren't steady -/
theorem sd_nil {p : Int → Prop} : Sd p (fun _ => []) := ⟨fun _ => List.nodup_nil, fun _ _ h => by simp at h, fun _ _ _ _ _ => by simp, fun _ _ _ _ _ h => by simp at h⟩
theorem t1_mem {a p q : Int} {r : List Int} (hr : ∀ x, x ∈ r ↔ x = p ∨ x = q) (Y : List Int) (u : Int) : u ∈ chosenRow [[a], r, [p], [q]] Y ↔ (a ∈ Y ∧ u = a) ∨ (a ∉ Y ∧ ((u = p ∧ p ∈ Y) ∨ (u = q ∧ q ∈ Y))) := by
  simp only [chosenRow]
  by_cases h1 : a ∈ Y
  · rw [if_pos (by simp [h1])]; simp [h1]
  · rw [if_neg (by simp [h1])]
    by_cases h2 : p ∈ Y
    · by_cases h3 : q ∈ Y
      · rw [if_pos (row_in.mpr fun c hc => by rcases (hr c).mp hc with z | z <;> rw [z] <;> assumption), hr]; simp [h1, h2, h3]
      · rw [if_neg (fun z => h3 (row_in.mp z q ((hr q).mpr (.inr rfl)))), if_pos (by simp [h2])]; simp [h1, h2, h3]
    · rw [if_neg (fun z => h2 (row_in.mp z p ((hr p).mpr (.inl rfl)))), if_neg (by simp [h2])]
      by_cases h3 : q ∈ Y
      · rw [if_pos (by simp [h3])]; simp [h1, h2, h3]
      · rw [if_neg (by simp [h3])]; simp [h1, h2, h3]
theorem chosen_nd {rows : List (List Int)} (h : ∀ r ∈ rows, r.Nodup) (Y : List Int) : (chosenRow rows Y).Nodup := by
  induction rows with
  | nil => exact List.nodup_nil
  | cons r rows ih =>
    rw [chosenRow]
    split
    · exact h r List.mem_cons_self
    · exact ih fun r hr => h r (List.mem_cons_of_mem _ hr)
theorem chosen_pw {rows : List (List Int)} (h : ∀ r ∈ rows, r.Pairwise (· ≤ ·)) (Y : List Int) : chosenRow rows Y = isort (chosenRow rows Y) := by
  refine isort_eq (List.Perm.refl _) ?_
  induction rows with
  | nil => exact List.Pairwise.nil
  | cons r rows ih =>
    rw [chosenRow]
    split
    · exact h r List.mem_cons_self
    · exact ih fun r hr => h r (List.mem_cons_of_mem _ hr)
theorem sd_t1 {a p q : Int} {r : List Int} (hr : ∀ x, x ∈ r ↔ x = p ∨ x = q) (nr : r.Nodup) (ha : a ≠ p ∧ a ≠ q) : Sd (fun x => x = a ∨ x = p ∨ x = q) (chosenRow [[a], r, [p], [q]]) := by
  refine ⟨chosen_nd (by simp [nr]), fun Y c hc => ?_, fun Y Z h1 h2 c => ?_, fun Y Y' h c hy hc => ?_⟩
  · rw [t1_mem hr] at hc; grind
  · have h1 : ∀ c, (a ∈ Y ∧ c = a) ∨ (a ∉ Y ∧ ((c = p ∧ p ∈ Y) ∨ (c = q ∧ q ∈ Y))) → c ∈ Z := fun c hc => h1 c ((t1_mem hr Y c).mpr hc)
    rw [t1_mem hr, t1_mem hr]
    have i1 := h1 a
    have i2 := h1 p
    have i3 := h1 q
    have j1 := h2 a
    have j2 := h2 p
    have j3 := h2 q
    grind
  · rw [t1_mem hr] at hc ⊢
    have j1 := h a
    have j2 := h p
    have j3 := h q
    grind
theorem t2_mem {x y z : Int} {r1 r2 r3 : List Int} (e1 : ∀ u, u ∈ r1 ↔ u = x ∨ u = y ∨ u = z) (e2 : ∀ u, u ∈ r2 ↔ u = x ∨ u = y) (e3 : ∀ u, u ∈ r3 ↔ u = x ∨ u = z) (Y : List Int) (u : Int) :
    u ∈ chosenRow [r1, r2, r3] Y ↔ x ∈ Y ∧ (y ∈ Y ∨ z ∈ Y) ∧ (u = x ∨ (u = y ∧ y ∈ Y) ∨ (u = z ∧ z ∈ Y)) := by
  simp only [chosenRow]
  by_cases h1 : x ∈ Y
  · by_cases h2 : y ∈ Y
    · by_cases h3 : z ∈ Y
      · rw [if_pos (row_in.mpr fun c hc => by rcases (e1 c).mp hc with q | q | q <;> rw [q] <;> assumption), e1]; simp [h1, h2, h3]
      · rw [if_neg (fun q => h3 (row_in.mp q z ((e1 z).mpr (.inr (.inr rfl))))), if_pos (row_in.mpr fun c hc => by rcases (e2 c).mp hc with q | q <;> rw [q] <;> assumption), e2]; simp [h1, h2, h3]
    · rw [if_neg (fun q => h2 (row_in.mp q y ((e1 y).mpr (.inr (.inl rfl))))), if_neg (fun q => h2 (row_in.mp q y ((e2 y).mpr (.inr rfl))))]
      by_cases h3 : z ∈ Y
      · rw [if_pos (row_in.mpr fun c hc => by rcases (e3 c).mp hc with q | q <;> rw [q] <;> assumption), e3]; simp [h1, h2, h3]
      · rw [if_neg (fun q => h3 (row_in.mp q z ((e3 z).mpr (.inr rfl))))]; simp [h1, h2, h3]
  · rw [if_neg (fun q => h1 (row_in.mp q x ((e1 x).mpr (.inl rfl)))), if_neg (fun q => h1 (row_in.mp q x ((e2 x).mpr (.inl rfl)))), if_neg (fun q => h1 (row_in.mp q x ((e3 x).mpr (.inl rfl))))]; simp [h1]
theorem gc_t2 {x y z : Int} {r1 r2 r3 : List Int} (e1 : ∀ u, u ∈ r1 ↔ u = x ∨ u = y ∨ u = z) (e2 : ∀ u, u ∈ r2 ↔ u = x ∨ u = y) (e3 : ∀ u, u ∈ r3 ↔ u = x ∨ u = z) (n1 : r1.Nodup) (n2 : r2.Nodup) (n3 : r3.Nodup) (ne : x ≠ y ∧ x ≠ z) :
    GC (fun u => u = x) (fun u => u = y ∨ u = z) (chosenRow [r1, r2, r3]) := by
  have M := t2_mem e1 e2 e3
  refine ⟨chosen_nd (by simp [n1, n2, n3]), fun Y c hc => ?_, fun Y Z h1 h2 c => ?_, ⟨fun Y Y' h1 h2 c hb hy hx => ?_, fun Y Y' h1 h2 c hb hx => ?_⟩, ⟨fun Y Y' h1 h2 c hb hy hx => ?_, fun Y Y' h1 h2 c hb hx => ?_⟩⟩
  · rw [M] at hc; grind
  · have h1 : ∀ c, (x ∈ Y ∧ (y ∈ Y ∨ z ∈ Y) ∧ (c = x ∨ (c = y ∧ y ∈ Y) ∨ (c = z ∧ z ∈ Y))) → c ∈ Z := fun c hc => h1 c ((M Y c).mpr hc)
    rw [M, M]
    have i1 := h1 x
    have i2 := h1 y
    have i3 := h1 z
    have j1 := h2 x
    have j2 := h2 y
    have j3 := h2 z
    grind
  all_goals
    rw [M] at hx ⊢
    have i2 := h1 y
    have i3 := h1 z
    have j1 := h2 x
    have j2 := h2 y
    have j3 := h2 z
    have i1 := h1 x
    grind
end N50
/-! text G10 -/
set_option maxHeartbeats 4000000
namespace N50
open PySem PySem.Spec PyProof.Rows L2
section
variable {X : Cx} {a b : Expr} {ρ ρ1 : En} {m : Bool} {p pos : Pos}
theorem ev_min2 {i j : Int} {ra rb : RK} (h : EvA X [a, b] ρ [ra, rb] m ρ1) (e1 : ra.d = .int i) (e2 : rb.d = .int j) (hm : X.mg "min" = none) (hc : X.calm = true := by rfl) (hg : Gl X "min" := by rfl) (he : starEach [a, b] X.env = (false, eval a X.env) :: starEach [b] X.env := by rfl) (hpl : (backTo pos (starEach [b] X.env)).any (·.1) = false := by rfl) :
    Ev X (.Call (.Name "min" p) [a, b] [] pos) ρ (.v (.int (mn2 i j))) m ρ1 :=
  ev_B (res := .v (.int (mn2 i j))) (call_min2 hc) hg hm (by decide +kernel) h (fun M H vs Q mn ar k => by
    obtain ⟨v, u, rfl, h1, h2⟩ := a2 ar
    have g1 := ArgOk.low h1
    have g2 := ArgOk.low h2
    rw [e1] at g1
    rw [e2] at g2
    rw [den_int g1, den_int g2]
    exact ⟨i, j, rfl, k _ H Stp.refl (.int _)⟩) (he := he) (hpl := hpl)
theorem ev_max2 {i j : Int} {ra rb : RK} (h : EvA X [a, b] ρ [ra, rb] m ρ1) (e1 : ra.d = .int i) (e2 : rb.d = .int j) (hm : X.mg "max" = none) (hc : X.calm = true := by rfl) (hg : Gl X "max" := by rfl) (he : starEach [a, b] X.env = (false, eval a X.env) :: starEach [b] X.env := by rfl) (hpl : (backTo pos (starEach [b] X.env)).any (·.1) = false := by rfl) :
    Ev X (.Call (.Name "max" p) [a, b] [] pos) ρ (.v (.int (mx2 i j))) m ρ1 :=
  ev_B (res := .v (.int (mx2 i j))) (call_max2 hc) hg hm (by decide +kernel) h (fun M H vs Q mn ar k => by
    obtain ⟨v, u, rfl, h1, h2⟩ := a2 ar
    have g1 := ArgOk.low h1
    have g2 := ArgOk.low h2
    rw [e1] at g1
    rw [e2] at g2
    rw [den_int g1, den_int g2]
    exact ⟨i, j, rfl, k _ H Stp.refl (.int _)⟩) (he := he) (hpl := hpl)
end
theorem at_nth {xs : List Int} {k : Int} (h : 0 ≤ k ∧ k < (xs.length : Int)) : atI (xs.map D.int) k = some (.int (nthI xs k)) := by
  obtain ⟨n, rfl⟩ := Int.eq_ofNat_of_zero_le h.1
  exact atN 0 (by omega)
end N50
/-! text L8 -/
set_option maxHeartbeats 4000000
namespace N50
open PySem PySem.Spec PyProof.Rows L2
theorem lGrpStep_len (q : List (List Int × Int) × List Int) (g : List Int) : (lGrpStep q g).2.length ≤ q.2.length ∧ (lGrpStep q g).1.length ≤ q.1.length + 1 := by
  unfold lGrpStep
  split
  · simp
  · split
    · exact ⟨Nat.le_trans (tk_le _ _) (tk_le _ _), by simp⟩
    · exact ⟨tk_le _ _, by simp⟩
theorem lGroups_len (ds cs : List Int) : (lGroups ds cs).2.length ≤ ds.length ∧ (lGroups ds cs).1.length ≤ 3 := by
  have h : ∀ (gs : List (List Int)) (q : List (List Int × Int) × List Int), (gs.foldl lGrpStep q).2.length ≤ q.2.length ∧ (gs.foldl lGrpStep q).1.length ≤ q.1.length + gs.length := by
    intro gs
    induction gs with
    | nil => intro q; simp
    | cons g gs ih =>
      intro q
      have h1 := lGrpStep_len q g
      have h2 := ih (lGrpStep q g)
      rw [List.foldl_cons, List.length_cons]
      omega
  unfold lGroups lGroups1 lGroups2
  have := h [lHalf cs (tk ((cs.length : Int) + 1) ds).1 (tk 3 (tk ((cs.length : Int) + 1) ds).2).1, upTo cs (tk ((cs.length : Int) + 1) ds).1, cs] ([], (tk 3 (tk ((cs.length : Int) + 1) ds).2).2)
  have t1 := tk_le 3 (tk ((cs.length : Int) + 1) ds).2
  have t2 := tk_le ((cs.length : Int) + 1) ds
  simp only [List.length_cons, List.length_nil] at this
  omega
def R_groups : List D → List Int → RK → List Int → Prop := fun ds ns r ns' => ∃ cs : List Int, ds = [eL cs] ∧ cs.length ≤ 5 ∧ r = .v (.tup ((lGroups ns cs).1.map eGrp)) ∧ ns' = (lGroups ns cs).2
def evens : List Int → List Int
  | [] => []
  | [x] => [x]
  | x :: _ :: r => x :: evens r
theorem pick2 : ∀ (cs : List Int) (n : Nat), cs.length ≤ 5 → n ≤ cs.length → pickD cs none (some (n : Int)) (some 2) = evens (cs.take n)
  | [], 0, _, _ => rfl
  | [a], 0, _, _ => rfl
  | [a], 1, _, _ => rfl
  | [a, b], 0, _, _ => rfl
  | [a, b], 1, _, _ => rfl
  | [a, b], 2, _, _ => rfl
  | [a, b, c], 0, _, _ => rfl
  | [a, b, c], 1, _, _ => rfl
  | [a, b, c], 2, _, _ => rfl
  | [a, b, c], 3, _, _ => rfl
  | [a, b, c, d], 0, _, _ => rfl
  | [a, b, c, d], 1, _, _ => rfl
  | [a, b, c, d], 2, _, _ => rfl
  | [a, b, c, d], 3, _, _ => rfl
  | [a, b, c, d], 4, _, _ => rfl
  | [a, b, c, d, e], 0, _, _ => rfl
  | [a, b, c, d, e], 1, _, _ => rfl
  | [a, b, c, d, e], 2, _, _ => rfl
  | [a, b, c, d, e], 3, _, _ => rfl
  | [a, b, c, d, e], 4, _, _ => rfl
  | [a, b, c, d, e], 5, _, _ => rfl
  | [], n + 1, _, h => by simp at h
  | [a], n + 2, _, h => by simp at h
  | [a, b], n + 3, _, h => by simp at h
  | [a, b, c], n + 4, _, h => by simp at h
  | [a, b, c, d], n + 5, _, h => by simp at h
  | [a, b, c, d, e], n + 6, _, h => by simp at h
  | a :: b :: c :: d :: e :: g :: r, n, h, _ => by simp at h
theorem evens_len : ∀ cs : List Int, (evens cs).length ≤ cs.length
  | [] => Nat.le_refl _
  | [x] => Nat.le_refl _
  | x :: y :: r => by have := evens_len r; simp [evens]; omega
section
variable {P : Program} {w : World} {K : PySem.W.Frag} {mg : Str → Option Value} {base : Heap} {f : Addr} {fd : FuncData}
theorem cut_from {α : Type} (f : α → D) (xs : List α) (n : Nat) (h : n ≤ xs.length) (hz : xs.length ≤ 1000000) : cutD (xs.map f) (some (n : Int)) none = (xs.drop n).map f := by
  rw [cutD_map]
  have e1 : HT.sIx xs.length 0 (some (n : Int)) = n := by
    dsimp only [HT.sIx]; rw [if_neg (by omega)]; omega
  have e2 : HT.sIx xs.length xs.length none = xs.length := rfl
  rw [e1, e2, List.take_of_length_le (by rw [List.length_drop]; omega)]
theorem ok_groups (F : Fun K "_law_groups" "_law_groups" s_law_groups f fd) (T : Bt mg) (Ct : Cal P w K mg base 1 "_law_take" (SpS 2 0 R_take K)) : FnOk P w K mg base CX0 2 f fd ["_law_draws_here", "_law_contracts"] (SpS 2 0 R_groups K) := by
  refine fn_S F sc_law_groups rfl (fun ds ns r ns' h => ?_) fun cdv A outer s H E ds ns r ns' hr h => ?_
  · obtain ⟨cs, rfl, _, _, rfl⟩ := h
    exact ⟨rfl, Nat.zero_le _, fun z => Nat.le_trans (lGroups_len _ _).1 z⟩
  · obtain ⟨cs, rfl, hz, rfl, rfl⟩ := h
    have nd := sc_law_groups.nd
    have hp : (0 : Int) < (cs.length : Int) + 1 := by omega
    refine ss_set 2 nd (ev_callS0 0 Ct hr (ea_cons (ev_add (i := (cs.length : Nat)) (ev_len (ev_n 1 rfl) T.len) ev_i (lenM D.int cs) rfl) ea_nil) rfl ⟨_, rfl, hp, rfl, rfl⟩) ?_
    have hb := tk_lt hp ns
    have eG : lGroups ns cs = lGroups1 cs (tk ((cs.length : Int) + 1) ns) := rfl
    rw [eG]
    clear eG
    generalize tk ((cs.length : Int) + 1) ns = c at *
    obtain ⟨c, d1⟩ := c
    dsimp only at hb
    refine ss_setN 3 nd (ev_lst ea_nil) ?_
    have h3 := tk_lt (many := 3) (by decide) d1
    obtain ⟨a, ha⟩ := Int.eq_ofNat_of_zero_le hb.1
    refine ss_set 4 nd (ev_ix (d := eL (lHalf cs c (tk 3 d1).1)) (ev_lst (ea_cons (ev_slL (ev_n 1 rfl) rfl eo_none (eo_some (ev_fdiv (i := c) (ev_n 2 rfl) ev_i rfl rfl ⟨by decide, by decide⟩) rfl)) (ea_cons (ev_slL (ev_n 1 rfl) rfl (eo_some (i := c) (ev_n 2 rfl) rfl) eo_none) (ea_cons (ev_slSt (xs := cs.map D.int) (ev_n 1 rfl) rfl eo_none (eo_some (i := c) (ev_n 2 rfl) rfl) (eo_some (i := 2) ev_i rfl) (by decide) ?_) ea_nil)))) (ev_callS0 0 Ct hr (ea_cons ev_i ea_nil) rfl ⟨3, rfl, by decide, rfl, rfl⟩) rfl ?_) ?_
    · rw [pickD_map, List.length_map, ha, pick2 cs a hz (by omega)]
      exact szc (by have := evens_len (cs.take a); rw [List.length_take] at this; omega)
    · rcases (by omega : (tk 3 d1).1 = 0 ∨ (tk 3 d1).1 = 1 ∨ (tk 3 d1).1 = 2) with e | e | e
      · show atI [_, _, _] (tk 3 d1).1 = _
        rw [e]
        show some (D.lst (cutD (cs.map .int) none (some (c / 2)))) = some (eL (upTo cs (c / 2)))
        rw [cut_upTo _ _ _ (by omega)]
      · show atI [_, _, _] (tk 3 d1).1 = _
        rw [e]
        show some (D.lst (cutD (cs.map .int) (some c) none)) = some (eL (cs.drop c.toNat))
        rw [ha, cut_from _ _ _ (by omega) (by omega)]; rfl
      · show atI [_, _, _] (tk 3 d1).1 = _
        rw [e]
        show some (D.lst (pickD (cs.map .int) none (some c) (some 2))) = some (eL (pickD cs none (some c) (some 2)))
        rw [pickD_map]
    · have eG : lGroups1 cs (c, d1) = lGroups2 cs c (tk 3 d1) := rfl
      rw [eG]
      clear eG
      generalize tk 3 d1 = k at *
      obtain ⟨k, d2⟩ := k
      dsimp only at h3
      have hh : (lHalf cs c k).length ≤ 5 := by
        unfold lHalf
        split
        · exact Nat.le_trans (upTo_len _ _) hz
        · split
          · rw [List.length_drop]; omega
          · rw [ha, pick2 cs a hz (by omega)]; have := evens_len (cs.take a); rw [List.length_take] at this; omega
      show SS _ _ (PoS 0 (.v (.tup (([lHalf cs c k, upTo cs c, cs].foldl lGrpStep ([], d2)).1.map eGrp))) ([lHalf cs c k, upTo cs c, cs].foldl lGrpStep ([], d2)).2) [.own false (eL d2), .val (eL cs), .val (.int c), .own true (.lst []), .val (eL (lHalf cs c k)), .no]
      generalize lHalf cs c k = hf at *
      refine ss_forF (xs := [hf, upTo cs c, cs]) (enc := eL) (fun q : List (List Int × Int) × List Int => [.own false (eL q.2), .val (eL cs), .val (.int c), .own true (.lst (q.1.map eGrp)), .val (eL hf), .no]) lGrpStep (fun i q => q.1.length ≤ i) ([], d2) .never (ei_sq (ev_lst (ea_cons (ev_n 4 rfl) (ea_cons (ev_slL (ev_n 1 rfl) rfl eo_none (eo_some (i := c) (ev_n 2 rfl) rfl)) (ea_cons (ev_n 1 rfl) ea_nil)))) ?_) (Nat.le_refl _) (by repeat (first | exact le_nil | refine le_no ?_ | refine le_eq ?_)) (fun i g q hx hJ => ⟨?_, _, _, (eg_n 5 nd), ?_⟩) (fun hJ => ?_)
      · show [eL hf, D.lst (cutD (cs.map .int) none (some c)), eL cs] = [eL hf, eL (upTo cs c), eL cs]
        rw [cut_upTo _ _ _ (by omega)]
      · have := lGrpStep_len q g
        omega
      · have hi := lt_of_get hx
        simp only [List.length_cons, List.length_nil] at hi
        by_cases hg : g = []
        · have e : lGrpStep q g = q := if_pos hg
          subst hg
          rw [e]
          refine ss_when (EvT.is (et_w (ew_andF (et_c (ec_gt (i := 0) (ev_len (ev_n 5 rfl) T.len) ev_i rfl rfl)))) rfl) (fun ht => nomatch ht) (fun ht => ss_nil ?_)
          repeat (first | exact le_nil | refine le_no ?_ | refine le_eq ?_)
        · have e1 : lGrpStep q g = if (tk 2 q.2).1 = 0 then (q.1 ++ [(g, nthI [1, 1, 2, 0, 3] (tk 5 (tk 2 q.2).2).1)], (tk 5 (tk 2 q.2).2).2) else (q.1, (tk 2 q.2).2) := if_neg hg
          have hl : 0 < g.length := List.length_pos_iff.mpr hg
          refine ss_when (t := decide ((tk 2 q.2).1 = 0)) (et_w (ew_andT (EvT.is (et_c (ec_gt (i := (g.length : Nat)) (ev_len (ev_n 5 rfl) T.len) ev_i (by exact lenM D.int g) rfl)) (by rw [decide_eq_true_iff]; omega)) (ew_and1 (et_c (ec_eq (ev_callS0 0 Ct hr (ea_cons ev_i ea_nil) rfl ⟨2, rfl, by decide, rfl, rfl⟩) ev_i (.int _ _)))))) (fun ht => ?_) (fun ht => ?_)
          · rw [e1, if_pos (of_decide_eq_true ht)]
            have h5 := tk_lt (many := 5) (by decide) (tk 2 q.2).2
            refine ss_app 3 (ev_tup (ea_cons (ev_tuple (ev_n 5 rfl) T.tuple) (ea_cons (ev_ix (d := .int (nthI [1, 1, 2, 0, 3] (tk 5 (tk 2 q.2).2).1)) (ev_lst (ea_cons ev_i (ea_cons ev_i (ea_cons ev_i (ea_cons ev_i (ea_cons ev_i ea_nil)))))) (ev_callS0 0 Ct hr (ea_cons ev_i ea_nil) rfl ⟨5, rfl, by decide, rfl, rfl⟩) rfl (at_nth (xs := [1, 1, 2, 0, 3]) h5)) ea_nil))) rfl ?_ (ss_nil (ss_nil ?_))
            · rw [List.length_map]; exact szl (by omega)
            · show Le [.own false (eL (tk 5 (tk 2 q.2).2).2), _, _, .own true (.lst ((q.1 ++ [(g, nthI [1, 1, 2, 0, 3] (tk 5 (tk 2 q.2).2).1)]).map eGrp)), _, _] _
              rw [List.map_append]
              repeat (first | exact le_nil | refine le_no ?_ | refine le_eq ?_)
          · rw [e1, if_neg (of_decide_eq_false ht)]
            refine ss_nil ?_
            repeat (first | exact le_nil | refine le_no ?_ | refine le_eq ?_)
      · exact ss_fz 3 rfl (ss_ret (ev_tuple (ev_n 3 rfl) T.tuple) ⟨_, .inl rfl, rfl, rfl⟩)
end
end N50
/-! text L9 -/
set_option maxHeartbeats 4000000
namespace N50
open PySem PySem.Spec PyProof.Rows L2
theorem lCell_le (s ds : List Int) : (lCell s ds).2.length ≤ ds.length := by
  unfold lCell
  split
  · exact Nat.le_refl _
  · exact tk_le _ _
theorem lPrice_le (s : List Int) (p : Int) (t : Int × List Int) : (lPrice s p t).2.length ≤ t.2.length := by
  unfold lPrice
  split
  · exact lCell_le _ _
  · exact Nat.le_refl _
theorem lPair1_le (s order : List Int) (shape k : Int) (f : Int × List Int) : (lPair1 s order shape k f).2.length ≤ f.2.length := by
  unfold lPair1 lPair2 lPair3 lPair4
  exact Nat.le_trans (lPrice_le _ _ _) (Nat.le_trans (tk_le _ _) (Nat.le_trans (tk_le _ _) (tk_le _ _)))
theorem lPairStep_len (s order : List Int) (shape : Int) (q : List Con × List Int) (k : Int) : (lPairStep s order shape q k).1.length = q.1.length + 1 ∧ (lPairStep s order shape q k).2.length ≤ q.2.length := by
  unfold lPairStep
  exact ⟨by simp, Nat.le_trans (lPair1_le ..) (tk_le _ _)⟩
theorem lPairs_fold (s order : List Int) (shape : Int) : ∀ (ks : List Int) (q : List Con × List Int), (ks.foldl (lPairStep s order shape) q).1.length = q.1.length + ks.length ∧ (ks.foldl (lPairStep s order shape) q).2.length ≤ q.2.length
  | [], q => by simp
  | k :: ks, q => by
    have h1 := lPairStep_len s order shape q k
    have h2 := lPairs_fold s order shape ks (lPairStep s order shape q k)
    rw [List.foldl_cons, List.length_cons]
    omega
theorem lPrs_len (s ds order : List Int) (most shape : Int) : (lPairs s ds order most shape).2.length ≤ ds.length := by
  unfold lPairs
  exact Nat.le_trans (lPairs_fold ..).2 (tk_le _ _)
def R_pairs : List D → List Int → RK → List Int → Prop := fun ds ns r ns' => ∃ (s order : List Int) (most shape : Int), ds = [.scr s, eL order, .int most, .int shape] ∧ 2 ≤ order.length ∧ order.length ≤ 40 ∧ 0 ≤ most ∧ most ≤ 40 ∧ r = .n (.lst ((lPairs s ns order most shape).1.map eCon)) ∧ ns' = (lPairs s ns order most shape).2
theorem mn2_b {i j n : Int} (hi : 0 ≤ i ∧ i < n) (hj : 0 ≤ j ∧ j < n) : 0 ≤ mn2 i j ∧ mn2 i j < n := by unfold mn2; split <;> omega
theorem mx2_b {i j n : Int} (hi : 0 ≤ i ∧ i < n) (hj : 0 ≤ j ∧ j < n) : 0 ≤ mx2 i j ∧ mx2 i j < n := by unfold mx2; split <;> omega
theorem lFS_b {count k shape a g : Int} (hc : 2 ≤ count) (hk : 0 ≤ k) (ha : 0 ≤ a ∧ a < count) (hg : 0 ≤ g ∧ g < count - 1) : (0 ≤ (lFS count k shape (a, (a + 1 + g) % count)).1 ∧ (lFS count k shape (a, (a + 1 + g) % count)).1 < count) ∧ (0 ≤ (lFS count k shape (a, (a + 1 + g) % count)).2 ∧ (lFS count k shape (a, (a + 1 + g) % count)).2 < count) := by
  unfold lFS
  have p := Int.emod_nonneg k (b := count - 1) (by omega)
  have p' := Int.emod_lt_of_pos k (b := count - 1) (by omega)
  have u := Int.emod_nonneg (a + 1 + g) (b := count) (by omega)
  have u' := Int.emod_lt_of_pos (a + 1 + g) (b := count) (by omega)
  have v := Int.emod_nonneg k (b := 2) (by omega)
  have v' := Int.emod_lt_of_pos k (b := 2) (by omega)
  split
  · dsimp only; omega
  · split
    · unfold mn2; dsimp only; split <;> omega
    · dsimp only; omega
section
variable {P : Program} {w : World} {K : PySem.W.Frag} {mg : Str → Option Value} {base : Heap} {f : Addr} {fd : FuncData}
theorem ok_pairs (F : Fun K "_law_pairs" "_law_pairs" s_law_pairs f fd) (T : Bt mg) (hmx : mg "max" = none) (Ct : Cal P w K mg base 1 "_law_take" (SpS 2 0 R_take K)) (Cc : Cal P w K mg base 2 "_law_cell" (SpS 2 1 R_cell K)) : FnOk P w K mg base CX0 3 f fd ["_law_script", "_law_draws_here", "_law_order", "_law_most", "_law_shape"] (SpS 5 1 R_pairs K) := by
  refine fn_S F sc_law_pairs rfl (fun ds ns r ns' h => ?_) fun cdv A outer st H E ds ns r ns' hr h => ?_
  · obtain ⟨s, order, most, shape, rfl, _, _, _, _, _, rfl⟩ := h
    exact ⟨rfl, Nat.succ_le_succ (Nat.zero_le _), fun z => Nat.le_trans (lPrs_len ..) z⟩
  · obtain ⟨s, order, most, shape, rfl, h2, h40, hm0, hm1, rfl, rfl⟩ := h
    have nd := sc_law_pairs.nd
    have hr1 : Room 1 _ := hr.mono (by decide)
    have hp : (0 : Int) < most + 1 := by omega
    refine ss_setN 5 nd (ev_lst ea_nil) ?_
    refine ss_set 6 nd (ev_len (ev_n 2 rfl) T.len) ?_
    have elen : D.int ((((RK.v (eL order)).d.its.length : Nat)) : Int) = .int ((order.length : Nat) : Int) := lenM D.int order
    show SS _ _ _ [_, _, _, _, _, _, .val (D.int ((((RK.v (eL order)).d.its.length : Nat)) : Int)), _, _, _, _]
    rw [elen]
    have hb := tk_lt hp ns
    have eP : lPairs s ns order most shape = (idxs (tk (most + 1) ns).1.toNat).foldl (lPairStep s order shape) ([], (tk (most + 1) ns).2) := rfl
    rw [eP]
    clear eP
    refine ss_forF (xs := idxs (tk (most + 1) ns).1.toNat) (enc := .int) (fun q : List Con × List Int => [.val (.scr s), .own false (eL q.2), .val (eL order), .val (.int most), .val (.int shape), .own true (.lst (q.1.map eCon)), .val (.int (order.length : Nat)), .no, .no, .no, .no]) (lPairStep s order shape) (fun i q => q.1.length = i) ([], (tk (most + 1) ns).2) .never (ei_idx (n := (tk (most + 1) ns).1.toNat) (ev_callS0 1 Ct hr1 (ea_cons (ev_add (ev_n 3 rfl) ev_i rfl rfl) ea_nil) rfl ⟨_, rfl, hp, rfl, rfl⟩) (by show D.int _ = D.int _; rw [Int.toNat_of_nonneg hb.1]) (by omega) T.range) rfl (by repeat (first | exact le_nil | refine le_no ?_ | refine le_eq ?_)) (fun i k q hx hJ => ⟨?_, _, _, (eg_n 7 nd), ?_⟩) (fun hJ => ?_)
    · rw [(lPairStep_len s order shape q k).1, hJ]
    · have hk : 0 ≤ k := (idxs_mem.mp (mem_of_get hx)).1
      have hi := lt_of_get hx
      rw [idxs_len] at hi
      have hc0 : (0 : Int) < (order.length : Nat) := by omega
      have hc1 : (0 : Int) < (order.length : Nat) - 1 := by omega
      refine ss_set 8 nd (ev_callS0 1 Ct hr1 (ea_cons (ev_n 6 rfl) ea_nil) rfl ⟨_, rfl, hc0, rfl, rfl⟩) ?_
      have est : lPairStep s order shape q k = (q.1 ++ [(lPair1 s order shape k (tk order.length q.2)).1], (lPair1 s order shape k (tk order.length q.2)).2) := rfl
      have hb1 := tk_lt hc0 q.2
      generalize tk (order.length : Int) q.2 = a at est hb1 ⊢
      obtain ⟨a, d1⟩ := a
      dsimp only at hb1
      refine ss_set 9 nd (ev_mod (j := (order.length : Nat)) (ev_int (ev_add (ev_add (i := a) (ev_n 8 rfl) ev_i rfl rfl) (ev_callS0 1 Ct hr1 (ea_cons (ev_sub (ev_n 6 rfl) ev_i rfl rfl) ea_nil) rfl ⟨_, rfl, hc1, rfl, rfl⟩) rfl rfl) rfl T.int) (ev_n 6 rfl) rfl rfl hc0) ?_
      have e1 : lPair1 s order shape k (a, d1) = lPair2 s order shape k a (tk ((order.length : Int) - 1) d1) := rfl
      rw [e1] at est
      clear e1
      have hb2 := tk_lt hc1 d1
      generalize tk ((order.length : Int) - 1) d1 = g at est hb2 ⊢
      obtain ⟨g, d2⟩ := g
      dsimp only at hb2
      have e1 : lPair2 s order shape k a (g, d2) = lPair3 s order (lFS order.length k shape (a, (a + 1 + g) % (order.length : Int))) (tk 12 d2) := rfl
      rw [e1] at est
      clear e1
      have hfs := lFS_b (shape := shape) (by omega : (2 : Int) ≤ (order.length : Nat)) hk hb1 hb2
      have eFS : lFS order.length k shape (a, (a + 1 + g) % (order.length : Int)) = if shape = 1 then (k % ((order.length : Int) - 1), k % ((order.length : Int) - 1) + 1) else if shape = 2 then (mn2 (k % 2) ((order.length : Int) - 2), mn2 (k % 2) ((order.length : Int) - 2) + 1) else (a, (a + 1 + g) % (order.length : Int)) := rfl
      generalize lFS order.length k shape (a, (a + 1 + g) % (order.length : Int)) = fs at est hfs eFS
      obtain ⟨x, y⟩ := fs
      dsimp only at hfs
      -- behind the shapes
      refine ss_join [.val (.scr s), .own false (eL d2), .val (eL order), .val (.int most), .val (.int shape), .own true (.lst (q.1.map eCon)), .val (.int (order.length : Nat)), .val (.int k), .val (.int (if shape = 1 then k % ((order.length : Int) - 1) else a)), .val (.int (if shape = 1 then k % ((order.length : Int) - 1) + 1 else (a + 1 + g) % (order.length : Int))), .no] (et_c (ec_eq (ev_n 4 rfl) ev_i (.int _ _))) (fun ht => ?_) (fun ht => ?_) ?_
      · have ht' := of_decide_eq_true ht
        rw [if_pos ht', if_pos ht']
        refine ss_set 8 nd (ev_mod (i := k) (ev_int (ev_n 7 rfl) rfl T.int) (ev_sub (ev_n 6 rfl) ev_i rfl rfl) rfl rfl hc1) (ss_set 9 nd (ev_add (i := k % ((order.length : Int) - 1)) (ev_n 8 rfl) ev_i rfl rfl) (ss_nil ?_))
        repeat (first | exact le_nil | refine le_no ?_ | refine le_eq ?_)
      · have ht' := of_decide_eq_false ht
        rw [if_neg ht', if_neg ht']
        repeat (first | exact le_nil | refine le_no ?_ | refine le_eq ?_)
      · refine ss_join [.val (.scr s), .own false (eL d2), .val (eL order), .val (.int most), .val (.int shape), .own true (.lst (q.1.map eCon)), .val (.int (order.length : Nat)), .val (.int k), .val (.int x), .val (.int y), .no] (et_c (ec_eq (ev_n 4 rfl) ev_i (.int _ _))) (fun ht => ?_) (fun ht => ?_) ?_
        · have ht' := of_decide_eq_true ht
          rw [if_neg (by omega : ¬ shape = 1), if_pos ht'] at eFS
          obtain ⟨rfl, rfl⟩ := Prod.mk.inj eFS
          refine ss_set 8 nd (ev_min2 (i := k % 2) (ea_cons (ev_mod (i := k) (ev_int (ev_n 7 rfl) rfl T.int) ev_i rfl rfl (by decide)) (ea_cons (ev_sub (ev_n 6 rfl) ev_i rfl rfl) ea_nil)) rfl rfl T.min) (ss_set 9 nd (ev_add (i := mn2 (k % 2) ((order.length : Int) - 2)) (ev_n 8 rfl) ev_i rfl rfl) (ss_nil ?_))
          repeat (first | exact le_nil | refine le_no ?_ | refine le_eq ?_)
        · have ht' := of_decide_eq_false ht
          have e1 : (if shape = 1 then k % ((order.length : Int) - 1) else a) = x := by
            by_cases h1 : shape = 1
            · rw [if_pos h1] at eFS ⊢; exact (Prod.mk.inj eFS).1.symm
            · rw [if_neg h1, if_neg ht'] at eFS; rw [if_neg h1]; exact (Prod.mk.inj eFS).1.symm
          have e2 : (if shape = 1 then k % ((order.length : Int) - 1) + 1 else (a + 1 + g) % (order.length : Int)) = y := by
            by_cases h1 : shape = 1
            · rw [if_pos h1] at eFS ⊢; exact (Prod.mk.inj eFS).2.symm
            · rw [if_neg h1, if_neg ht'] at eFS; rw [if_neg h1]; exact (Prod.mk.inj eFS).2.symm
          rw [e1, e2]
          repeat (first | exact le_nil | refine le_no ?_ | refine le_eq ?_)
        · refine ss_set 10 nd (ev_add (ev_sub (ev_callS0 1 Ct hr1 (ea_cons ev_i ea_nil) rfl ⟨12, rfl, by decide, rfl, rfl⟩) ev_i rfl rfl) (ev_mul (j := mn2 x y) ev_i (ev_min2 (i := x) (j := y) (ea_cons (ev_n 8 rfl) (ea_cons (ev_n 9 rfl) ea_nil)) rfl rfl T.min) rfl rfl (.inl ⟨by decide, by decide⟩)) rfl rfl) ?_
          have e1 : lPair3 s order (x, y) (tk 12 d2) = lPair4 s order (x, y) (lPrice s ((tk 12 d2).1 - 2 + 4 * mn2 x y) (tk 20 (tk 12 d2).2)) := rfl
          rw [e1] at est
          clear e1
          generalize tk 12 d2 = p at est ⊢
          obtain ⟨p, d3⟩ := p
          dsimp only at est
          have ePr : lPrice s (p - 2 + 4 * mn2 x y) (tk 20 d3) = if (tk 20 d3).1 = 0 then lCell s (tk 20 d3).2 else (p - 2 + 4 * mn2 x y, (tk 20 d3).2) := rfl
          refine ss_join [.val (.scr s), .own false (eL (lPrice s (p - 2 + 4 * mn2 x y) (tk 20 d3)).2), .val (eL order), .val (.int most), .val (.int shape), .own true (.lst (q.1.map eCon)), .val (.int (order.length : Nat)), .val (.int k), .val (.int x), .val (.int y), .val (.int (lPrice s (p - 2 + 4 * mn2 x y) (tk 20 d3)).1)] (t := decide ((tk 20 d3).1 = 0)) (et_c (ec_eq (ev_callS0 1 Ct hr1 (ea_cons ev_i ea_nil) rfl ⟨20, rfl, by decide, rfl, rfl⟩) ev_i (.int _ _))) (fun ht => ?_) (fun ht => ?_) ?_
          · rw [ePr, if_pos (of_decide_eq_true ht)]
            refine ss_set 10 nd (ev_callS1 1 Cc hr (ev_n 0 rfl) ea_nil rfl ⟨s, rfl, rfl, rfl⟩) (ss_nil ?_)
            repeat (first | exact le_nil | refine le_no ?_ | refine le_eq ?_)
          · rw [ePr, if_neg (of_decide_eq_false ht)]
            repeat (first | exact le_nil | refine le_no ?_ | refine le_eq ?_)
          · clear ePr
            generalize lPrice s (p - 2 + 4 * mn2 x y) (tk 20 d3) = pr at est ⊢
            have emn : atI (order.map D.int) (mn2 x y) = some (.int (nthI order (mn2 x y))) := at_nth (mn2_b hfs.1 hfs.2)
            have emx : atI (order.map D.int) (mx2 x y) = some (.int (nthI order (mx2 x y))) := at_nth (mx2_b hfs.1 hfs.2)
            refine ss_app 5 (ev_tup (ea_cons (ev_ix (ev_n 2 rfl) (ev_min2 (i := x) (j := y) (ea_cons (ev_n 8 rfl) (ea_cons (ev_n 9 rfl) ea_nil)) rfl rfl T.min) rfl emn) (ea_cons (ev_ix (ev_n 2 rfl) (ev_max2 (i := x) (j := y) (ea_cons (ev_n 8 rfl) (ea_cons (ev_n 9 rfl) ea_nil)) rfl rfl hmx) rfl emx) (ea_cons (ev_n 10 rfl) ea_nil)))) rfl ?_ (ss_nil ?_)
            · rw [List.length_map, hJ]; exact szl (by omega)
            · rw [est]
              show Le [_, .own false (eL pr.2), _, _, _, .own true (.lst ((q.1 ++ [(⟨nthI order (mn2 x y), nthI order (mx2 x y), pr.1⟩ : Con)]).map eCon)), _, _, _, _, _] _
              rw [List.map_append]
              repeat (first | exact le_nil | refine le_no ?_ | refine le_eq ?_)
    · exact ss_retO 5 rfl (.inl ⟨rfl, rfl⟩)
end
end N50
/-! text L10 -/
set_option maxHeartbeats 4000000
namespace N50
open PySem PySem.Spec PyProof.Rows L2
theorem insAt_perm (xs : List Int) (n : Nat) (c : Int) : (xs.take n ++ [c] ++ xs.drop n).Perm (xs ++ [c]) := by
  have h : (xs.take n ++ [c] ++ xs.drop n).Perm (xs.take n ++ xs.drop n ++ [c]) := by
    rw [List.append_assoc, List.append_assoc]
    exact (List.perm_append_comm).append_left _
  rwa [List.take_append_drop] at h
theorem lMixed_fold (share : Int) : ∀ (cs : List Int) (q : List Int × List Int), ∃ l : List Int, l.Sublist cs ∧ (cs.foldl (lMixStep share) q).2.Perm (q.2 ++ l)
  | [], q => ⟨[], .slnil, by simp⟩
  | c :: cs, q => by
    obtain ⟨l, h1, h2⟩ := lMixed_fold share cs (lMixStep share q c)
    rw [List.foldl_cons]
    by_cases h : (tk 8 q.1).1 < share
    · refine ⟨c :: l, h1.cons₂ c, h2.trans ?_⟩
      have e : (lMixStep share q c).2 = q.2.take (tk ((q.2.length : Int) + 1) (tk 8 q.1).2).1.toNat ++ [c] ++ q.2.drop (tk ((q.2.length : Int) + 1) (tk 8 q.1).2).1.toNat := by
        unfold lMixStep; rw [if_pos h]
      rw [e]
      have := (insAt_perm q.2 (tk ((q.2.length : Int) + 1) (tk 8 q.1).2).1.toNat c).append_right l
      rwa [List.append_assoc q.2] at this
    · refine ⟨l, h1.cons c, h2.trans ?_⟩
      have e : (lMixStep share q c).2 = q.2 := by unfold lMixStep; rw [if_neg h]
      rw [e]
theorem lMixed_sub (ds cs : List Int) (share : Int) : ∃ l : List Int, l.Sublist cs ∧ (lMixed ds cs share).2.Perm l := by
  obtain ⟨l, h1, h2⟩ := lMixed_fold share cs (ds, [])
  exact ⟨l, h1, by rwa [List.nil_append] at h2⟩
theorem lMixed_le (ds cs : List Int) (share : Int) : (lMixed ds cs share).1.length ≤ ds.length := lMixed_len cs share (ds, [])
/-- a row of wishes out of cs -/
def Wish (cs w : List Int) : Prop := ∃ l : List Int, l.Sublist cs ∧ w.Perm l
theorem Wish.len {cs w : List Int} (h : Wish cs w) : w.length ≤ cs.length := by
  obtain ⟨l, h1, h2⟩ := h
  rw [h2.length_eq]; exact h1.length_le
theorem Wish.mem {cs w : List Int} (h : Wish cs w) {x : Int} (hx : x ∈ w) : x ∈ cs := by
  obtain ⟨l, h1, h2⟩ := h
  exact h1.subset (h2.mem_iff.mp hx)
theorem lRooms_le (s ds : List Int) : (lRooms s ds).2.length ≤ ds.length := by
  have h : ∀ r t, (lRooms1 s r t).2.length ≤ t.2.length := fun r t => by
    unfold lRooms1
    split
    · unfold lRooms2; exact Nat.le_trans (tk_le _ _) (lCell_le _ _)
    · exact Nat.le_refl _
  unfold lRooms lRoomsA lRoomsB
  exact Nat.le_trans (h _ _) (Nat.le_trans (tk_le _ _) (Nat.le_trans (tk_le _ _) (tk_le _ _)))
theorem lCost_le (s ds : List Int) : (lCost s ds).2.length ≤ ds.length := by
  unfold lCost lCost1
  exact Nat.le_trans (lPrice_le _ _ _) (Nat.le_trans (tk_le _ _) (tk_le _ _))
theorem lKind_le (s buys sells w0 w1 : List Int) (rooms : Int × Int) (k : Int × List Int) : (lKind s buys sells w0 w1 rooms k).2.length ≤ k.2.length := by
  unfold lKind
  split
  · exact Nat.le_trans (lGroups_len _ _).1 (lGroups_len _ _).1
  · split
    · exact lCost_le _ _
    · unfold lLast; exact tk_le _ _
theorem lPlain_le (s ds buys sells : List Int) : (lPlain s ds buys sells).2.length ≤ ds.length := by
  unfold lPlain lPlain0 lPlain1 lPlain2 lPlain3
  exact Nat.le_trans (lKind_le ..) (Nat.le_trans (tk_le _ _) (Nat.le_trans (lRooms_le _ _) (Nat.le_trans (lMixed_le ..) (Nat.le_trans (lMixed_le ..) (tk_le _ _)))))
def R_plainc : List D → List Int → RK → List Int → Prop := fun ds ns r ns' => ∃ s buys sells : List Int, ds = [.scr s, eL buys, eL sells] ∧ buys.length ≤ 5 ∧ sells.length ≤ 5 ∧ (∃ n, RowOk n buys ∧ RowOk n sells) ∧ r = .v (ePl (lPlain s ns buys sells).1) ∧ ns' = (lPlain s ns buys sells).2
theorem rev2 (x y : Int) : pickD [D.int x, D.int y] none none (some (-1)) = [.int y, .int x] := by with_unfolding_all rfl
theorem fwd2 (x y : Int) : pickD [D.int x, D.int y] none none (some 1) = [.int x, .int y] := by with_unfolding_all rfl
theorem nth2 {f : Int} (h : 0 ≤ f ∧ f < 2) : nthI [1, -1] f = if f = 0 then 1 else -1 := by
  rcases (by omega : f = 0 ∨ f = 1) with rfl | rfl <;> rfl
section
variable {P : Program} {w : World} {K : PySem.W.Frag} {mg : Str → Option Value} {base : Heap} {f : Addr} {fd : FuncData}
set_option maxHeartbeats 8000000 in
theorem ok_plainc (F : Fun K "_law_plain_choice" "_law_plain_choice" s_law_plain_choice f fd) (T : Bt mg) (Ct : Cal P w K mg base 1 "_law_take" (SpS 2 0 R_take K)) (Cc : Cal P w K mg base 2 "_law_cell" (SpS 2 1 R_cell K)) (Cm : Cal P w K mg base 2 "_law_mixed" (SpS 3 0 R_mixed K)) (Cg : Cal P w K mg base 2 "_law_groups" (SpS 2 0 R_groups K)) (Ca : Cal P w K mg base 3 "_law_table" (SpP 1 R_table K)) : FnOk P w K mg base CX0 4 f fd ["_law_script", "_law_draws_here", "_law_buys", "_law_sells"] (SpS 4 1 R_plainc K) := by
  refine fn_S F sc_law_plain_choice rfl (fun ds ns r ns' h => ?_) fun cdv A outer st H E ds ns r ns' hr h => ?_
  · obtain ⟨s, buys, sells, rfl, _, _, _, _, rfl⟩ := h
    exact ⟨rfl, Nat.succ_le_succ (Nat.zero_le _), fun z => Nat.le_trans (lPlain_le ..) z⟩
  · obtain ⟨s, buys, sells, rfl, hb5, hs5, ⟨n, hbn, hsn⟩, rfl, rfl⟩ := h
    have nd := sc_law_plain_choice.nd
    have hr1 : Room 1 _ := hr.mono (by decide)
    have hr2 : Room 2 _ := hr.mono (by decide)
    have h4 := tk_lt (many := 4) (by decide) ns
    refine ss_set 4 nd (ev_ix (d := .int (nthI [8, 8, 7, 5] (tk 4 ns).1)) (ev_lst (ea_cons ev_i (ea_cons ev_i (ea_cons ev_i (ea_cons ev_i ea_nil))))) (ev_callS0 1 Ct hr1 (ea_cons ev_i ea_nil) rfl ⟨4, rfl, by decide, rfl, rfl⟩) rfl (at_nth (xs := [8, 8, 7, 5]) h4)) ?_
    have e0 : lPlain s ns buys sells = lPlain1 s buys sells (nthI [8, 8, 7, 5] (tk 4 ns).1) (lMixed (tk 4 ns).2 buys (nthI [8, 8, 7, 5] (tk 4 ns).1)) := rfl
    rw [e0]
    clear e0 h4
    generalize nthI [8, 8, 7, 5] (tk 4 ns).1 = sh
    generalize (tk 4 ns).2 = d1
    refine ss_set 5 nd (ev_lst (ea_cons (ev_callS0 1 Cm hr2 (ea_cons (ev_n 2 rfl) (ea_cons (ev_n 4 rfl) ea_nil)) rfl ⟨_, buys, sh, rfl, sqL _, by omega, rfl, rfl⟩) (ea_cons (ev_callS0 1 Cm hr2 (ea_cons (ev_n 3 rfl) (ea_cons (ev_n 4 rfl) ea_nil)) rfl ⟨_, sells, sh, rfl, sqL _, by omega, rfl, rfl⟩) ea_nil))) ?_
    have hw0 : Wish buys (lMixed d1 buys sh).2 := lMixed_sub _ _ _
    have e0 : lPlain1 s buys sells sh (lMixed d1 buys sh) = lPlain2 s buys sells (lMixed d1 buys sh).2 (lMixed (lMixed d1 buys sh).1 sells sh) := rfl
    rw [e0]
    clear e0
    generalize (lMixed d1 buys sh).2 = w0 at hw0 ⊢
    generalize (lMixed d1 buys sh).1 = d2
    have hw1 : Wish sells (lMixed d2 sells sh).2 := lMixed_sub _ _ _
    have e0 : lPlain2 s buys sells w0 (lMixed d2 sells sh) = lPlain3 s buys sells w0 (lMixed d2 sells sh).2 (lRoomsA s (tk 6 (lMixed d2 sells sh).1)) := rfl
    rw [e0]
    clear e0
    generalize (lMixed d2 sells sh).2 = w1 at hw1 ⊢
    generalize (lMixed d2 sells sh).1 = d3
    have h6 := tk_lt (many := 6) (by decide) d3
    have h5 := tk_lt (many := 5) (by decide) (tk 6 d3).2
    refine ss_set 6 nd (ev_lst (ea_cons (ev_ix (d := .int (nthI [1, 1, 2, 3, 9, 0] (tk 6 d3).1)) (ev_lst (ea_cons ev_i (ea_cons ev_i (ea_cons ev_i (ea_cons ev_i (ea_cons ev_i (ea_cons ev_i ea_nil))))))) (ev_callS0 1 Ct hr1 (ea_cons ev_i ea_nil) rfl ⟨6, rfl, by decide, rfl, rfl⟩) rfl (at_nth (xs := [1, 1, 2, 3, 9, 0]) h6)) (ea_cons (ev_ix (d := .int (nthI [1, 1, 2, 9, 0] (tk 5 (tk 6 d3).2).1)) (ev_lst (ea_cons ev_i (ea_cons ev_i (ea_cons ev_i (ea_cons ev_i (ea_cons ev_i ea_nil)))))) (ev_callS0 1 Ct hr1 (ea_cons ev_i ea_nil) rfl ⟨5, rfl, by decide, rfl, rfl⟩) rfl (at_nth (xs := [1, 1, 2, 9, 0]) h5)) ea_nil))) ?_
    have e0 : lRoomsA s (tk 6 d3) = lRooms1 s (nthI [1, 1, 2, 3, 9, 0] (tk 6 d3).1, nthI [1, 1, 2, 9, 0] (tk 5 (tk 6 d3).2).1) (tk 12 (tk 5 (tk 6 d3).2).2) := rfl
    rw [e0]
    clear e0 h5 h6
    generalize nthI [1, 1, 2, 3, 9, 0] (tk 6 d3).1 = r0
    generalize nthI [1, 1, 2, 9, 0] (tk 5 (tk 6 d3).2).1 = r1
    generalize (tk 5 (tk 6 d3).2).2 = d4
    have eR : lRooms1 s (r0, r1) (tk 12 d4) = if (tk 12 d4).1 = 0 then lRooms2 (lCell s (tk 12 d4).2).1 r0 (tk 2 (lCell s (tk 12 d4).2).2) else ((r0, r1), (tk 12 d4).2) := rfl
    refine ss_join [.val (.scr s), .own false (eL (lRooms1 s (r0, r1) (tk 12 d4)).2), .val (eL buys), .val (eL sells), .val (.int sh), .val (.lst [.tupN (w0.map .int), .tupN (w1.map .int)]), .val (.lst [.int (lRooms1 s (r0, r1) (tk 12 d4)).1.1, .int (lRooms1 s (r0, r1) (tk 12 d4)).1.2]), .no, .no, .no] (t := decide ((tk 12 d4).1 = 0)) (et_c (ec_eq (ev_callS0 1 Ct hr1 (ea_cons ev_i ea_nil) rfl ⟨12, rfl, by decide, rfl, rfl⟩) ev_i (.int _ _))) (fun ht => ?_) (fun ht => ?_) ?_
    · rw [if_pos (of_decide_eq_true ht)] at eR
      rw [eR]
      clear eR
      generalize (tk 12 d4).2 = d5
      have hf := tk_lt (many := 2) (by decide) (lCell s d5).2
      refine ss_set 6 nd (ev_slSt (xs := [.int (abI (lCell s d5).1), .int r0]) (o := some (nthI [1, -1] (tk 2 (lCell s d5).2).1)) (ev_lst (ea_cons (ev_abs (ev_callS1 1 Cc hr2 (ev_n 0 rfl) ea_nil rfl ⟨s, rfl, rfl, rfl⟩) rfl T.abs) (ea_cons (ev_ix (ev_n 6 rfl) ev_i rfl rfl) ea_nil))) rfl eo_none eo_none (eo_some (ev_ix (d := .int (nthI [1, -1] (tk 2 (lCell s d5).2).1)) (ev_lst (ea_cons ev_i (ea_cons (ev_neg (i := 1) ev_i rfl) ea_nil))) (ev_callS0 1 Ct hr1 (ea_cons ev_i ea_nil) rfl ⟨2, rfl, by decide, rfl, rfl⟩) rfl (at_nth (xs := [1, -1]) hf)) rfl) ?_ ?_) (ss_nil ?_)
      · rw [nth2 hf]; split <;> decide
      · rw [nth2 hf]
        split
        · rw [fwd2]; exact szb rfl
        · rw [rev2]; exact szb rfl
      · rw [nth2 hf]
        unfold lRooms2
        by_cases hz : (tk 2 (lCell s d5).2).1 = 0
        · rw [if_pos hz, if_pos hz, fwd2]
          repeat (first | exact le_nil | refine le_no ?_ | refine le_eq ?_)
        · rw [if_neg hz, if_neg hz, rev2]
          repeat (first | exact le_nil | refine le_no ?_ | refine le_eq ?_)
    · rw [if_neg (of_decide_eq_false ht)] at eR
      rw [eR]
      repeat (first | exact le_nil | refine le_no ?_ | refine le_eq ?_)
    · clear eR
      generalize lRooms1 s (r0, r1) (tk 12 d4) = rr
      obtain ⟨⟨q0, q1⟩, d5⟩ := rr
      refine ss_set 7 nd (ev_callS0 1 Ct hr1 (ea_cons ev_i ea_nil) rfl ⟨8, rfl, by decide, rfl, rfl⟩) ?_
      have e0 : lPlain3 s buys sells w0 w1 ((q0, q1), d5) = lKind s buys sells w0 w1 (q0, q1) (tk 8 d5) := rfl
      rw [e0]
      clear e0
      generalize tk 8 d5 = k
      obtain ⟨k, d6⟩ := k
      have eK : lKind s buys sells w0 w1 (q0, q1) (k, d6) = if k = 0 then (.caps w0 (lGroups d6 buys).1 w1 (lGroups (lGroups d6 buys).2 sells).1, (lGroups (lGroups d6 buys).2 sells).2)
        else if k < 3 ∧ buys ≠ [] ∧ sells ≠ [] then (.trader q0 (lCost s d6).1 (isort w0) (isort w1), (lCost s d6).2)
        else lLast buys sells w0 w1 (if k < 5 ∨ buys = [] ∨ sells = [] then .sides q0 w0 q1 w1 else .maker q0 w0 w1) (tk 4 d6) := rfl
      refine ss_when (et_c (ec_eq (ev_n 7 rfl) ev_i (.int _ _))) (fun ht => ?_) (fun ht => ?_)
      · rw [if_pos (of_decide_eq_true ht)] at eK
        rw [eK]
        refine ss_ret (Ev.wk (ev_tup (ea_cons ev_s (ea_cons (ev_ix (ev_n 5 rfl) ev_i rfl rfl) (ea_cons (ev_callS0 1 Cg hr2 (ea_cons (ev_n 2 rfl) ea_nil) rfl ⟨buys, rfl, hb5, rfl, rfl⟩) (ea_cons (ev_ix (ev_n 5 rfl) ev_i rfl rfl) (ea_cons (ev_callS0 1 Cg hr2 (ea_cons (ev_n 3 rfl) ea_nil) rfl ⟨sells, rfl, hs5, rfl, rfl⟩) ea_nil)))))) (.tup (.cons .rfl' (.cons .n (.cons .rfl' (.cons .n (.cons .rfl' .nil))))))) ⟨_, .inl rfl, rfl, rfl⟩
      · rw [if_neg (of_decide_eq_false ht)] at eK
        have lb : D.int ((((RK.v (eL buys)).d.its.length : Nat)) : Int) = .int ((buys.length : Nat) : Int) := lenM D.int buys
        have ls : D.int ((((RK.v (eL sells)).d.its.length : Nat)) : Int) = .int ((sells.length : Nat) : Int) := lenM D.int sells
        have pos : ∀ xs : List Int, (0 : Int) < (xs.length : Nat) ↔ xs ≠ [] := fun xs => by
          rw [← List.length_pos_iff]; omega
        refine ss_when (t := decide (k < 3 ∧ buys ≠ [] ∧ sells ≠ [])) (EvT.is (et_w (ew_and (et_c (ec_lt (i := k) (ev_n 7 rfl) ev_i rfl rfl)) (fun _ => (ew_and (et_c (ec_gt (i := (buys.length : Nat)) (ev_len (ev_n 2 rfl) T.len) ev_i lb rfl)) (fun _ => (ew_and1 (et_c (ec_gt (i := (sells.length : Nat)) (ev_len (ev_n 3 rfl) T.len) ev_i ls rfl)))))))) ?_) (fun ht2 => ?_) (fun ht2 => ?_)
        · rw [Bool.eq_iff_iff]
          simp [pos, List.length_pos_iff]
        · rw [if_pos (of_decide_eq_true ht2)] at eK
          rw [eK]
          refine ss_set 8 nd (ev_sub (ev_callS0 1 Ct hr1 (ea_cons ev_i ea_nil) rfl ⟨5, rfl, by decide, rfl, rfl⟩) ev_i rfl rfl) ?_
          have e0 : lCost s d6 = lPrice s ((tk 5 d6).1 - 1) (tk 12 (tk 5 d6).2) := rfl
          rw [e0]
          clear e0
          generalize tk 5 d6 = p
          obtain ⟨p, d7⟩ := p
          have ePr : lPrice s (p - 1) (tk 12 d7) = if (tk 12 d7).1 = 0 then lCell s (tk 12 d7).2 else (p - 1, (tk 12 d7).2) := rfl
          refine ss_join [.val (.scr s), .own false (eL (lPrice s (p - 1) (tk 12 d7)).2), .val (eL buys), .val (eL sells), .val (.int sh), .val (.lst [.tupN (w0.map .int), .tupN (w1.map .int)]), .val (.lst [.int q0, .int q1]), .val (.int k), .val (.int (lPrice s (p - 1) (tk 12 d7)).1), .no] (t := decide ((tk 12 d7).1 = 0)) (et_c (ec_eq (ev_callS0 1 Ct hr1 (ea_cons ev_i ea_nil) rfl ⟨12, rfl, by decide, rfl, rfl⟩) ev_i (.int _ _))) (fun ht => ?_) (fun ht => ?_) ?_
          · rw [ePr, if_pos (of_decide_eq_true ht)]
            refine ss_set 8 nd (ev_callS1 1 Cc hr2 (ev_n 0 rfl) ea_nil rfl ⟨s, rfl, rfl, rfl⟩) (ss_nil ?_)
            repeat (first | exact le_nil | refine le_no ?_ | refine le_eq ?_)
          · rw [ePr, if_neg (of_decide_eq_false ht)]
            repeat (first | exact le_nil | refine le_no ?_ | refine le_eq ?_)
          · generalize lPrice s (p - 1) (tk 12 d7) = pr
            exact ss_ret (ev_tup (ea_cons ev_s (ea_cons (ev_ix (ev_n 6 rfl) ev_i rfl rfl) (ea_cons (ev_n 8 rfl) (ea_cons (ev_tuple (ev_sortedT (ns := w0) hr.units (Ev.wk (ev_ix (ev_n 5 rfl) ev_i rfl rfl) .n) rfl rfl T.sorted) T.tuple) (ea_cons (ev_tuple (ev_sortedT (ns := w1) hr.units (Ev.wk (ev_ix (ev_n 5 rfl) ev_i rfl rfl) .n) rfl rfl T.sorted) T.tuple) ea_nil)))))) ⟨_, .inl rfl, rfl, rfl⟩
        · rw [if_neg (of_decide_eq_false ht2)] at eK
          rw [eK]
          clear eK
          refine ss_set 9 nd (ev_tup (ea_cons ev_s (ea_cons (ev_ix (ev_n 6 rfl) ev_i rfl rfl) (ea_cons (ev_ix (ev_n 5 rfl) ev_i rfl rfl) (ea_cons (ev_ix (ev_n 5 rfl) ev_i rfl rfl) ea_nil))))) ?_
          have eC : (if k < 5 ∨ buys = [] ∨ sells = [] then Pl.sides q0 w0 q1 w1 else .maker q0 w0 w1) = if (decide (k < 5 ∨ buys = [] ∨ sells = [])) = true then Pl.sides q0 w0 q1 w1 else .maker q0 w0 w1 := by simp
          rw [eC]
          clear eC
          refine ss_join [.val (.scr s), .own false (eL d6), .val (eL buys), .val (eL sells), .val (.int sh), .val (.lst [.tupN (w0.map .int), .tupN (w1.map .int)]), .val (.lst [.int q0, .int q1]), .val (.int k), .no, .val (ePlN (if (decide (k < 5 ∨ buys = [] ∨ sells = [])) = true then Pl.sides q0 w0 q1 w1 else .maker q0 w0 w1))] (t := decide (k < 5 ∨ buys = [] ∨ sells = [])) (EvT.is (et_w (ew_or (et_c (ec_lt (i := k) (ev_n 7 rfl) ev_i rfl rfl)) (fun _ => (ew_or (et_c (ec_eq (ev_len (ev_n 2 rfl) T.len) ev_i (.int _ _))) (fun _ => (ew_or1 (et_c (ec_eq (ev_len (ev_n 3 rfl) T.len) ev_i (.int _ _))))))))) ?_) (fun ht => ?_) (fun ht => ?_) ?_
          · rw [Bool.eq_iff_iff]
            simp [D.its, RK.d]
          · rw [if_pos ht]
            refine ss_set 9 nd (ev_tup (ea_cons ev_s (ea_cons (ev_ix (ev_n 6 rfl) ev_i rfl rfl) (ea_cons (ev_ix (ev_n 5 rfl) ev_i rfl rfl) (ea_cons (ev_ix (ev_n 6 rfl) ev_i rfl rfl) (ea_cons (ev_ix (ev_n 5 rfl) ev_i rfl rfl) ea_nil)))))) (ss_nil ?_)
            repeat (first | exact le_nil | refine le_no ?_ | refine le_eq ?_)
          · rw [if_neg (by rw [ht]; exact Bool.false_ne_true)]
            repeat (first | exact le_nil | refine le_no ?_ | refine le_eq ?_)
          · have hms : isMS (if (decide (k < 5 ∨ buys = [] ∨ sells = [])) = true then Pl.sides q0 w0 q1 w1 else .maker q0 w0 w1) := by split <;> trivial
            have hsd : lSidesOf (if (decide (k < 5 ∨ buys = [] ∨ sells = [])) = true then Pl.sides q0 w0 q1 w1 else .maker q0 w0 w1) = (w0, w1) := by split <;> rfl
            have hr0 : RowOk n w0 := ⟨Nat.le_trans hw0.len (by omega), fun x hx => hbn.2 x (hw0.mem hx)⟩
            have hr1' : RowOk n w1 := ⟨Nat.le_trans hw1.len (by omega), fun x hx => hsn.2 x (hw1.mem hx)⟩
            have hpl : PlOk n (if (decide (k < 5 ∨ buys = [] ∨ sells = [])) = true then Pl.sides q0 w0 q1 w1 else .maker q0 w0 w1) := by split <;> exact ⟨hr0, hr1'⟩
            generalize (if (decide (k < 5 ∨ buys = [] ∨ sells = [])) = true then Pl.sides q0 w0 q1 w1 else .maker q0 w0 w1) = ch at hms hsd hpl ⊢
            have l0 : D.int ((((eT w0).its.length : Nat)) : Int) = .int ((w0.length : Nat) : Int) := lenM D.int w0
            have l1 : D.int ((((eT w1).its.length : Nat)) : Int) = .int ((w1.length : Nat) : Int) := lenM D.int w1
            have eL' : lLast buys sells w0 w1 ch (tk 4 d6) = (if (tk 4 d6).1 = 0 ∧ (w0.length : Int) + w1.length < 6 ∧ (buys.length : Int) + sells.length < 7 then .table (lTable ch) else ch, (tk 4 d6).2) := rfl
            refine ss_when (t := decide ((tk 4 d6).1 = 0 ∧ (w0.length : Int) + w1.length < 6 ∧ (buys.length : Int) + sells.length < 7)) (EvT.is (et_w (ew_andC (et_c (ec_eq (ev_callS0 1 Ct hr1 (ea_cons ev_i ea_nil) rfl ⟨4, rfl, by decide, rfl, rfl⟩) ev_i (.int _ _))) (fun _ => (ew_and (et_c (ec_lt (ev_add (i := (w0.length : Nat)) (j := (w1.length : Nat)) (ev_len (Ev.wk (d' := eT w0) (ev_ix (ev_n 5 rfl) ev_i rfl rfl) .n) T.len) (ev_len (Ev.wk (d' := eT w1) (ev_ix (ev_n 5 rfl) ev_i rfl rfl) .n) T.len) l0 l1) ev_i rfl rfl)) (fun _ => (ew_and1 (et_c (ec_lt (ev_add (i := (buys.length : Nat)) (j := (sells.length : Nat)) (ev_len (ev_n 2 rfl) T.len) (ev_len (ev_n 3 rfl) T.len) lb ls) ev_i rfl rfl)))))))) ?_) (fun ht => ?_) (fun ht => ?_)
            · rw [Bool.eq_iff_iff]
              simp
            · rw [eL', if_pos (of_decide_eq_true ht)]
              exact ss_ret (ev_call Ca hr (ea_cons (ev_n 9 rfl) ea_nil) ⟨ch, rfl, hms, ⟨n, hpl⟩, by rw [hsd]; have h1 := hw0.len; have h2 := hw1.len; dsimp only; omega, rfl⟩) ⟨_, .inl rfl, rfl, rfl⟩
            · rw [eL', if_neg (of_decide_eq_false ht)]
              exact ss_ret (Ev.wk (ev_n 9 rfl) (wk_pl ch)) ⟨_, .inl rfl, rfl, rfl⟩
end
end N50
/-! text L11 -/
set_option maxHeartbeats 4000000
namespace N50
open PySem PySem.Spec PyProof.Rows L2
theorem lPlaces_run (many : Int) (hm : 0 < many) : ∀ (all acc ds : List Int), ∃ ps : List Int, all.foldl (lPlaceStep many) (acc, ds) = (acc ++ ps, all.foldl (fun ds (_ : Int) => (tk many ds).2) ds) ∧ runS (fun ds (_ : Int) => (tk many ds).2) (fun ds (_ : Int) => D.int (tk many ds).1) ds all = ps.map .int ∧ ps.length = all.length ∧ ∀ p ∈ ps, 0 ≤ p ∧ p < many
  | [], acc, ds => ⟨[], by simp, rfl, rfl, by simp⟩
  | c :: all, acc, ds => by
    obtain ⟨ps, h1, h2, h3, h4⟩ := lPlaces_run many hm all (acc ++ [(tk many ds).1]) (tk many ds).2
    refine ⟨(tk many ds).1 :: ps, ?_, ?_, by simp [h3], fun p hp => ?_⟩
    · rw [List.foldl_cons, List.foldl_cons]
      show all.foldl (lPlaceStep many) (acc ++ [(tk many ds).1], (tk many ds).2) = _
      rw [h1, List.append_assoc]; rfl
    · rw [runS, h2]; rfl
    · rcases List.mem_cons.mp hp with rfl | hp
      · exact tk_lt hm ds
      · exact h4 p hp
theorem lPart_le (s buys sells places : List Int) : ∀ (ks : List Int) (q : List Pl × List Int), (ks.foldl (lPartStep s buys sells places) q).2.length ≤ q.2.length ∧ (ks.foldl (lPartStep s buys sells places) q).1.length = q.1.length + ks.length
  | [], q => by simp
  | k :: ks, q => by
    have h := lPart_le s buys sells places ks (lPartStep s buys sells places q k)
    have h1 : (lPartStep s buys sells places q k).2.length ≤ q.2.length := lPlain_le ..
    have h2 : (lPartStep s buys sells places q k).1.length = q.1.length + 1 := by unfold lPartStep; simp
    rw [List.foldl_cons, List.length_cons]
    omega
theorem tks_le (many : Int) : ∀ (all ds : List Int), (all.foldl (fun ds (_ : Int) => (tk many ds).2) ds).length ≤ ds.length
  | [], ds => Nat.le_refl _
  | c :: all, ds => Nat.le_trans (tks_le many all _) (tk_le _ _)
theorem nth_many {m : Int} (h : 0 ≤ m ∧ m < 6) : 0 < nthI [2, 3, 2, 1, 5, 9] m ∧ nthI [2, 3, 2, 1, 5, 9] m ≤ 9 := by
  rcases (by omega : m = 0 ∨ m = 1 ∨ m = 2 ∨ m = 3 ∨ m = 4 ∨ m = 5) with rfl | rfl | rfl | rfl | rfl | rfl <;> decide
theorem lPick_le (s ds buys sells : List Int) : (lPick s ds buys sells).2.length ≤ ds.length := by
  unfold lPick lPick1
  split
  · exact Nat.le_trans (lPlain_le ..) (tk_le _ _)
  · refine Nat.le_trans ?_ (Nat.le_trans (tk_le 6 _) (tk_le 8 _))
    have h6 := tk_lt (many := 6) (by decide) (tk 8 ds).2
    have hn := (nth_many h6).1
    unfold lPick2 lSplit1
    split
    · exact Nat.le_refl _
    · unfold lSplit2
      refine Nat.le_trans (lPart_le ..).1 ?_
      unfold lPlacesD
      obtain ⟨ps, h1, _⟩ := lPlaces_run _ hn (buys ++ sells) [] (tk 6 (tk 8 ds).2).2
      rw [h1]
      exact tks_le _ _ _
def R_pick : List D → List Int → RK → List Int → Prop := fun ds ns r ns' => ∃ s buys sells : List Int, ds = [.scr s, eL buys, eL sells] ∧ buys.length ≤ 5 ∧ sells.length ≤ 5 ∧ (∃ n, RowOk n buys ∧ RowOk n sells) ∧ r = .v (eCh (lPick s ns buys sells).1) ∧ ns' = (lPick s ns buys sells).2
theorem nth_mem {xs : List Int} {k : Int} (h : 0 ≤ k ∧ k < (xs.length : Int)) : nthI xs k ∈ xs := by
  obtain ⟨n, rfl⟩ := Int.eq_ofNat_of_zero_le h.1
  unfold nthI
  rw [Int.toNat_natCast, List.getD_eq_getElem?_getD, List.getElem?_eq_getElem (by omega)]
  exact List.getElem_mem _
section
variable {P : Program} {w : World} {K : PySem.W.Frag} {mg : Str → Option Value} {base : Heap} {f : Addr} {fd : FuncData}
set_option maxHeartbeats 8000000 in
theorem ok_pick (F : Fun K "_law_choice" "_law_choice" s_law_choice f fd) (T : Bt mg) (Ct : Cal P w K mg base 1 "_law_take" (SpS 2 0 R_take K)) (Cp : Cal P w K mg base 4 "_law_plain_choice" (SpS 4 1 R_plainc K)) : FnOk P w K mg base CX0 5 f fd ["_law_script", "_law_draws_here", "_law_buys", "_law_sells"] (SpS 4 1 R_pick K) := by
  refine fn_S F sc_law_choice rfl (fun ds ns r ns' h => ?_) fun cdv A outer st H E ds ns r ns' hr h => ?_
  · obtain ⟨s, buys, sells, rfl, _, _, _, _, rfl⟩ := h
    exact ⟨rfl, Nat.succ_le_succ (Nat.zero_le _), fun z => Nat.le_trans (lPick_le ..) z⟩
  · obtain ⟨s, buys, sells, rfl, hb5, hs5, ⟨n, hbn, hsn⟩, rfl, rfl⟩ := h
    have nd := sc_law_choice.nd
    have hr1 : Room 1 _ := hr.mono (by decide)
    have eP : lPick s ns buys sells = if 0 < (tk 8 ns).1 then (.pl (lPlain s (tk 8 ns).2 buys sells).1, (lPlain s (tk 8 ns).2 buys sells).2) else lPick2 s buys sells (tk 6 (tk 8 ns).2) := rfl
    refine ss_when (t := decide (0 < (tk 8 ns).1)) (et_c (ec_gt (ev_callS0 1 Ct hr1 (ea_cons ev_i ea_nil) rfl ⟨8, rfl, by decide, rfl, rfl⟩) ev_i rfl rfl)) (fun ht => ?_) (fun ht => ?_)
    · rw [eP, if_pos (of_decide_eq_true ht)]
      exact ss_ret (ev_callS1 1 Cp hr (ev_n 0 rfl) (ea_cons (ev_n 2 rfl) (ea_cons (ev_n 3 rfl) ea_nil)) rfl ⟨s, buys, sells, rfl, hb5, hs5, ⟨n, hbn, hsn⟩, rfl, rfl⟩) ⟨_, .inl rfl, rfl, rfl⟩
    · rw [eP, if_neg (of_decide_eq_false ht)]
      clear eP ht
      generalize (tk 8 ns).2 = d1
      refine ss_setN 4 nd (ev_lst ea_nil) ?_
      have h6 := tk_lt (many := 6) (by decide) d1
      refine ss_set 5 nd (ev_ix (d := .int (nthI [2, 3, 2, 1, 5, 9] (tk 6 d1).1)) (ev_lst (ea_cons ev_i (ea_cons ev_i (ea_cons ev_i (ea_cons ev_i (ea_cons ev_i (ea_cons ev_i ea_nil))))))) (ev_callS0 1 Ct hr1 (ea_cons ev_i ea_nil) rfl ⟨6, rfl, by decide, rfl, rfl⟩) rfl (at_nth (xs := [2, 3, 2, 1, 5, 9]) h6)) ?_
      have hmany := nth_many h6
      have e0 : lPick2 s buys sells (tk 6 d1) = (.split (lSplit1 s buys sells (nthI [2, 3, 2, 1, 5, 9] (tk 6 d1).1) (tk 6 d1).2).1, (lSplit1 s buys sells (nthI [2, 3, 2, 1, 5, 9] (tk 6 d1).1) (tk 6 d1).2).2) := rfl
      rw [e0]
      clear e0 h6
      generalize nthI [2, 3, 2, 1, 5, 9] (tk 6 d1).1 = many at hmany ⊢
      generalize (tk 6 d1).2 = d2
      have hcat : ∀ {X : Cx}, (buys.map D.int).length + (sells.map D.int).length ≤ sizeLine := fun {X} => by rw [List.length_map, List.length_map]; exact szc (by omega)
      have eC : (buys.map D.int) ++ (sells.map D.int) = (buys ++ sells).map .int := by rw [List.map_append]
      have eS : lSplit1 s buys sells many d2 = if buys ++ sells = [] then ([], d2) else lSplit2 s buys sells many (lPlacesD many d2 (buys ++ sells)) := rfl
      refine ss_when (t := decide (buys ++ sells = [])) (EvT.is (et_c (ec_eq (ev_len (ev_cat (ev_n 2 rfl) (ev_n 3 rfl) rfl rfl (by rw [List.length_map, List.length_map]; exact szc (by omega))) T.len) ev_i (.int _ _))) ?_) (fun ht => ?_) (fun ht => ?_)
      · rw [Bool.eq_iff_iff, decide_eq_true_iff, decide_eq_true_iff]
        show (((buys.map D.int ++ sells.map D.int).length : Nat) : Int) = 0 ↔ _
        rw [eC, List.length_map]
        constructor
        · intro h; exact List.length_eq_zero_iff.mp (by omega)
        · intro h; rw [h]; rfl
      · rw [eS, if_pos (of_decide_eq_true ht)]
        exact ss_ret (ev_tup (ea_cons ev_s (ea_cons (ev_tup ea_nil) ea_nil))) ⟨_, .inl rfl, rfl, rfl⟩
      · rw [eS, if_neg (of_decide_eq_false ht)]
        clear eS ht
        obtain ⟨ps, h1, h2, h3, h4⟩ := lPlaces_run many hmany.1 (buys ++ sells) [] d2
        rw [List.nil_append] at h1
        have eP : lPlacesD many d2 (buys ++ sells) = (ps, (buys ++ sells).foldl (fun ds (_ : Int) => (tk many ds).2) d2) := h1
        rw [eP]
        clear eP h1
        refine ss_set 6 nd (ev_lcS (xs := buys ++ sells) (enc := .int) (fun ds : List Int => [.val (.scr s), .own false (eL ds), .val (eL buys), .val (eL sells), .own true (.lst []), .val (.int many), .no, .no, .no, .no, .no, .no]) (fun ds _ => (tk many ds).2) (fun ds _ => .int (tk many ds).1) d2 [("_law_contract", 10)] nd (ei_sq (ev_cat (ev_n 2 rfl) (ev_n 3 rfl) rfl rfl (by rw [List.length_map, List.length_map]; exact szc (by omega))) eC) (by repeat (first | exact le_nil | refine le_no ?_ | refine le_eq ?_)) (fun ds j hj t ht => ?_) (fun x hx ds => ⟨_, _, fun s' H C cl fp => (eg_n 10 nd), ⟨_, fun s' H C cl fp => ev_callS0 1 Ct hr1 (ea_cons (ev_n 5 rfl) ea_nil) rfl ⟨many, rfl, hmany.1, rfl, rfl⟩, rfl, rfl⟩, ?_⟩)) ?_
        · simp only [List.map_cons, List.map_nil, List.mem_singleton] at hj
          subst hj
          exact (Option.some.inj ht).symm
        · repeat (first | exact le_nil | refine le_no ?_ | refine le_eq ?_)
        · generalize (buys ++ sells).foldl (fun ds (_ : Int) => (tk many ds).2) d2 = d3
          show SS _ _ _ [_, _, _, _, _, _, .val (.lst (runS (fun ds (_ : Int) => (tk many ds).2) (fun ds (_ : Int) => D.int (tk many ds).1) d2 (buys ++ sells))), _, _, _, _, _]
          rw [h2]
          have el : lSplit2 s buys sells many (ps, d3) = (idxs many.toNat).foldl (lPartStep s buys sells ps) ([], d3) := rfl
          rw [el]
          clear el h2
          refine ss_forF (xs := idxs many.toNat) (enc := .int) (fun q : List Pl × List Int => [.val (.scr s), .own false (eL q.2), .val (eL buys), .val (eL sells), .own true (.lst (q.1.map ePl)), .val (.int many), .val (eL ps), .no, .no, .no, .no, .no]) (lPartStep s buys sells ps) (fun i q => q.1.length = i) ([], d3) .never (ei_idx (n := many.toNat) (ev_n 5 rfl) (by show D.int _ = D.int _; rw [Int.toNat_of_nonneg (by omega)]) (by omega) T.range) rfl (by repeat (first | exact le_nil | refine le_no ?_ | refine le_eq ?_)) (fun i k q hx hJ => ⟨?_, _, _, (eg_n 7 nd), ?_⟩) (fun hJ => ?_)
          · unfold lPartStep; simp [hJ]
          · have hi := lt_of_get hx
            rw [idxs_len] at hi
            have est : lPartStep s buys sells ps q k = (q.1 ++ [(lPlain s q.2 (buys.filter fun c => decide (c ∈ lOwnK (buys ++ sells) ps k)) (sells.filter fun c => decide (c ∈ lOwnK (buys ++ sells) ps k))).1], (lPlain s q.2 (buys.filter fun c => decide (c ∈ lOwnK (buys ++ sells) ps k)) (sells.filter fun c => decide (c ∈ lOwnK (buys ++ sells) ps k))).2) := rfl
            rw [est]
            clear est
            refine ss_set 8 nd (ev_lc (xs := idxs ps.length) (enc := .int) (fun at' => decide (nthI ps at' = k)) (fun at' => .int (nthI (buys ++ sells) at')) [("_law_at", 11)] nd (EvI.pure (ei_idx (n := ps.length) (ev_len (ev_n 6 rfl) T.len) (lenM D.int ps) (by rw [h3, List.length_append]; omega) T.range)) (fun x hx => by
              have hxi := idxs_mem.mp hx
              have hxa : 0 ≤ x ∧ x < ((buys ++ sells).length : Int) := ⟨hxi.1, by rw [← h3]; exact hxi.2⟩
              exact ⟨_, fun s H C cl fp => (eg_n 11 nd), fun s H C cl fp => (ets_one (et_c (ec_eq (ev_ix (d := .int (nthI ps x)) (ev_n 6 rfl) (ev_n 11 rfl) rfl (by exact at_nth hxi)) (ev_n 7 rfl) (.int _ _)))), fun _ => ⟨_, fun s H C cl fp => (ev_ix (d := .int (nthI (buys ++ sells) x)) (ev_cat (ev_n 2 rfl) (ev_n 3 rfl) rfl rfl (by rw [List.length_map, List.length_map]; exact szc (by omega))) (ev_n 11 rfl) rfl (by have := at_nth hxa; rw [List.map_append] at this; exact this)), rfl, rfl⟩⟩)) ?_
            · have eo : D.lst (((idxs ps.length).filter fun at' => decide (nthI ps at' = k)).map fun at' => .int (nthI (buys ++ sells) at')) = eL (lOwnK (buys ++ sells) ps k) := by
                unfold lOwnK; rw [eL, List.map_map]; rfl
              show SS _ _ _ [_, _, _, _, _, _, _, _, .val (.lst (((idxs ps.length).filter fun at' => decide (nthI ps at' = k)).map fun at' => .int (nthI (buys ++ sells) at'))), _, _, _]
              rw [eo]
              clear eo
              generalize lOwnK (buys ++ sells) ps k = own
              refine ss_setLc 9 (xs := buys) (enc := .int) (fun c => decide (c ∈ own)) .int [("_law_contract", 10)] nd (ep_sq (ev_n 2 rfl) rfl) (fun x hx => ⟨_, fun s H C cl fp => (eg_n 10 nd), fun s H C cl fp => (ets_one (et_c (ec_in (ev_n 10 rfl) (ev_n 8 rfl) rfl rfl))), fun _ => ⟨_, fun s H C cl fp => (ev_n 10 rfl), rfl, rfl⟩⟩) ?_
              refine ss_app 4 (ev_callS1 1 Cp hr (ev_n 0 rfl) (ea_cons (ev_n 9 rfl) (ea_cons (ev_lc (xs := sells) (enc := .int) (fun c => decide (c ∈ own)) .int [("_law_contract", 10)] nd (ep_sq (ev_n 3 rfl) rfl) (fun x hx => ⟨_, fun s H C cl fp => (eg_n 10 nd), fun s H C cl fp => (ets_one (et_c (ec_in (ev_n 10 rfl) (ev_n 8 rfl) rfl rfl))), fun _ => ⟨_, fun s H C cl fp => (ev_n 10 rfl), rfl, rfl⟩⟩)) ea_nil)) rfl ⟨s, buys.filter fun c => decide (c ∈ own), sells.filter fun c => decide (c ∈ own), rfl, Nat.le_trans (List.length_filter_le ..) hb5, Nat.le_trans (List.length_filter_le ..) hs5, ⟨n, ⟨Nat.le_trans (List.length_filter_le ..) hbn.1, fun x hx => hbn.2 x (List.mem_filter.mp hx).1⟩, ⟨Nat.le_trans (List.length_filter_le ..) hsn.1, fun x hx => hsn.2 x (List.mem_filter.mp hx).1⟩⟩, rfl, rfl⟩) rfl ?_ (ss_nil ?_)
              · rw [List.length_map, hJ]; exact szl (by omega)
              · generalize lPlain s q.2 (buys.filter fun c => decide (c ∈ own)) (sells.filter fun c => decide (c ∈ own)) = pr
                show Le [_, .own false (eL pr.2), _, _, .own true (.lst ((q.1 ++ [pr.1]).map ePl)), _, _, _, _, _, _, _] _
                rw [List.map_append]
                repeat (first | exact le_nil | refine le_no ?_ | refine le_eq ?_)
          · refine ss_fz 4 rfl (ss_ret (ev_tup (ea_cons ev_s (ea_cons (ev_tuple (ev_n 4 rfl) T.tuple) ea_nil))) ⟨_, .inl rfl, rfl, rfl⟩)
end
end N50
/-! text L12 -/
set_option maxHeartbeats 4000000
namespace N50
open PySem PySem.Spec PyProof.Rows L2
theorem cut_mid {α : Type} (f : α → D) (xs : List α) (a b : Nat) (h : a ≤ b) : cutD (xs.map f) (some (a : Int)) (some (b : Int)) = ((xs.drop a).take (b - a)).map f := by
  rw [cutD_map]
  have e1 : HT.sIx xs.length 0 (some (a : Int)) = min a xs.length := by
    dsimp only [HT.sIx]; rw [if_neg (by omega)]; omega
  have e2 : HT.sIx xs.length xs.length (some (b : Int)) = min b xs.length := by
    dsimp only [HT.sIx]; rw [if_neg (by omega)]; omega
  rw [e1, e2]
  congr 1
  by_cases h1 : a ≤ xs.length
  · rw [Nat.min_eq_left h1]
    by_cases h2 : b ≤ xs.length
    · rw [Nat.min_eq_left h2]
    · rw [Nat.min_eq_right (by omega), List.take_of_length_le (by rw [List.length_drop]; omega), List.take_of_length_le (by rw [List.length_drop]; omega)]
  · rw [List.drop_eq_nil_of_le (by omega), List.drop_eq_nil_of_le (by omega)]
    simp
def R_wild : List D → RK → Prop := fun ds r => ∃ b s : List Int, ds = [eL b, eL s] ∧ b.length ≤ 5 ∧ s.length ≤ 5 ∧ r = .v (ePl (.table (lWild b s)))
section
variable {P : Program} {w : World} {K : PySem.W.Frag} {mg : Str → Option Value} {base : Heap} {f : Addr} {fd : FuncData}
theorem ok_wild (F : Fun K "_law_wild" "_law_wild" s_law_wild f fd) (T : Bt mg) : FnOk P w K mg base CX0 1 f fd ["_law_buys", "_law_sells"] (SpP 2 R_wild K) := by
  refine fn_P F sc_law_wild rfl (fun ds r h => ?_) fun cdv A outer st H E ds r hr h => ?_
  · obtain ⟨b, s, rfl, _⟩ := h; rfl
  · obtain ⟨b, s, rfl, hb, hs, rfl⟩ := h
    have nd := sc_law_wild.nd
    have u1 : ∀ xs : List Int, xs.length ≤ 5 → cutD (xs.map D.int) none (some 1) = (xs.take 1).map .int := fun xs h => cut_upTo _ _ _ (by omega)
    have u2 : ∀ xs : List Int, xs.length ≤ 5 → cutD (xs.map D.int) none (some 2) = (xs.take 2).map .int := fun xs h => cut_upTo _ _ _ (by omega)
    have m2 : ∀ xs : List Int, cutD (xs.map D.int) (some 1) (some 2) = ((xs.drop 1).take 1).map .int := fun xs => cut_mid D.int xs 1 2 (by decide)
    have m3 : ∀ xs : List Int, cutD (xs.map D.int) (some 1) (some 3) = ((xs.drop 1).take 2).map .int := fun xs => cut_mid D.int xs 1 3 (by decide)
    have m4 : ∀ xs : List Int, cutD (xs.map D.int) (some 2) (some 3) = ((xs.drop 2).take 1).map .int := fun xs => cut_mid D.int xs 2 3 (by decide)
    have tl : ∀ (xs : List Int) (n : Nat), xs.length ≤ 5 → (xs.take n).length ≤ 5 := fun xs n h => by rw [List.length_take]; omega
    have eW : lWild b s = if b = [] ∨ s = [] then [(b ++ s).take 1, ((b ++ s).drop 1).take 2, ((b ++ s).drop 1).take 1, ((b ++ s).drop 2).take 1]
      else if s.length < 2 then [isort (b.take 2 ++ s.take 1), isort (b.take 1 ++ s.take 1), isort ((b.drop 1).take 1 ++ s.take 1)]
      else [isort (b.take 1 ++ s.take 2), isort (b.take 1 ++ s.take 1), isort (b.take 1 ++ (s.drop 1).take 1)] := rfl
    refine ss_when (t := decide (b = [] ∨ s = [])) (EvT.is (et_w (ew_or (et_c (ec_eq (ev_len (ev_n 0 rfl) T.len) ev_i (.int _ _))) (fun _ => (ew_or1 (et_c (ec_eq (ev_len (ev_n 1 rfl) T.len) ev_i (.int _ _))))))) ?_) (fun ht => ?_) (fun ht => ?_)
    · rw [Bool.eq_iff_iff]
      simp [D.its, RK.d]
    · rw [eW, if_pos (of_decide_eq_true ht)]
      refine ss_set 2 nd (ev_cat (ev_n 0 rfl) (ev_n 1 rfl) rfl rfl (by rw [List.length_map, List.length_map]; exact szc (by omega))) ?_
      have hl : (b ++ s).length ≤ 10 := by rw [List.length_append]; omega
      show SS _ _ _ [_, _, .val (.lst (b.map .int ++ s.map .int)), _, _]
      rw [← List.map_append]
      generalize b ++ s = o at hl ⊢
      have v1 : cutD (o.map D.int) none (some 1) = (o.take 1).map .int := cut_upTo _ _ _ (by omega)
      refine ss_ret (ev_tup (ea_cons ev_s (ea_cons (ev_tup (ea_cons (ev_tuple (ev_slL (ev_n 2 rfl) rfl eo_none (eo_some ev_i rfl)) T.tuple) (ea_cons (ev_tuple (ev_slL (ev_n 2 rfl) rfl (eo_some ev_i rfl) (eo_some ev_i rfl)) T.tuple) (ea_cons (ev_tuple (ev_slL (ev_n 2 rfl) rfl (eo_some ev_i rfl) (eo_some ev_i rfl)) T.tuple) (ea_cons (ev_tuple (ev_slL (ev_n 2 rfl) rfl (eo_some ev_i rfl) (eo_some ev_i rfl)) T.tuple) ea_nil))))) ea_nil))) ⟨_, .inl rfl, ?_⟩
      show RK.v (.tup [.str "table", .tup [.tup (cutD (o.map D.int) none (some 1)), .tup (cutD (o.map D.int) (some 1) (some 3)), .tup (cutD (o.map D.int) (some 1) (some 2)), .tup (cutD (o.map D.int) (some 2) (some 3))]]) = _
      rw [v1, m3, m2, m4]; rfl
    · rw [eW, if_neg (of_decide_eq_false ht)]
      clear eW ht
      have cz : ∀ (xs ys : List D), xs.length ≤ 5 → ys.length ≤ 5 → xs.length + ys.length ≤ sizeLine := fun xs ys h1 h2 => szc (by omega)
      have cl : ∀ (xs : List Int) (lo hi : Option Int), xs.length ≤ 5 → (cutD (xs.map D.int) lo hi).length ≤ 5 := fun xs lo hi h => Nat.le_trans (cutD_length _ _ _) (by rw [List.length_map]; exact h)
      refine ss_set 3 nd (ev_cat (ev_slL (ev_n 0 rfl) rfl eo_none (eo_some (i := 1) ev_i rfl)) (ev_slL (ev_n 1 rfl) rfl eo_none (eo_some (i := 2) ev_i rfl)) rfl rfl (cz _ _ (cl b _ _ hb) (cl s _ _ hs))) ?_
      refine ss_set 4 nd (ev_lst (ea_cons (ev_tuple (ev_sorted (ns := b.take 1 ++ s.take 1) (ev_cat (ev_slL (ev_n 0 rfl) rfl eo_none (eo_some (i := 1) ev_i rfl)) (ev_slL (ev_n 1 rfl) rfl eo_none (eo_some (i := 1) ev_i rfl)) rfl rfl (cz _ _ (cl b _ _ hb) (cl s _ _ hs))) (by show cutD (b.map .int) none (some 1) ++ cutD (s.map .int) none (some 1) = _; rw [u1 b hb, u1 s hs, List.map_append]) T.sorted) T.tuple) (ea_cons (ev_tuple (ev_sorted (ns := b.take 1 ++ (s.drop 1).take 1) (ev_cat (ev_slL (ev_n 0 rfl) rfl eo_none (eo_some (i := 1) ev_i rfl)) (ev_slL (ev_n 1 rfl) rfl (eo_some (i := 1) ev_i rfl) (eo_some (i := 2) ev_i rfl)) rfl rfl (cz _ _ (cl b _ _ hb) (cl s _ _ hs))) (by show cutD (b.map .int) none (some 1) ++ cutD (s.map .int) (some 1) (some 2) = _; rw [u1 b hb, m2 s, List.map_append]) T.sorted) T.tuple) ea_nil))) ?_
      have e3 : D.lst (cutD (b.map .int) none (some 1) ++ cutD (s.map .int) none (some 2)) = eL (b.take 1 ++ s.take 2) := by rw [u1 b hb, u2 s hs, eL, List.map_append]
      show SS _ _ _ [_, _, _, .val (.lst (cutD (b.map .int) none (some 1) ++ cutD (s.map .int) none (some 2))), .val (.lst [eT (isort (b.take 1 ++ s.take 1)), eT (isort (b.take 1 ++ (s.drop 1).take 1))])]
      rw [e3]
      have ls : D.int ((((RK.v (eL s)).d.its.length : Nat)) : Int) = .int ((s.length : Nat) : Int) := lenM D.int s
      have fin : ∀ (o x y : List Int), SS (xOf P w K mg base ["_law_buys", "_law_sells", "_law_own", "_law_one", "_law_two"] "_law_wild" (defScope s_law_wild) f cdv A outer st H E) ((defBody s_law_wild).drop 4) (PoP (.v (ePl (.table [isort o, x, y])))) [.val (eL b), .val (eL s), .no, .val (eL o), .val (.lst [eT x, eT y])] := fun o x y => by
        exact ss_ret (ev_tup (ea_cons ev_s (ea_cons (ev_tup (ea_cons (ev_tuple (ev_sorted (ns := o) (ev_n 3 rfl) rfl T.sorted) T.tuple) (ea_cons (ev_ix (ev_n 4 rfl) ev_i rfl rfl) (ea_cons (ev_ix (ev_n 4 rfl) ev_i rfl rfl) ea_nil)))) ea_nil))) ⟨_, .inl rfl, rfl⟩
      refine ss_when (t := decide (s.length < 2)) (EvT.is (et_c (ec_lt (i := (s.length : Nat)) (ev_len (ev_n 1 rfl) T.len) ev_i ls rfl)) ?_) (fun ht => ?_) (fun ht => ?_)
      · rw [Bool.eq_iff_iff]
        simp
        omega
      · rw [if_pos (of_decide_eq_true ht)]
        refine ss_set 3 nd (ev_cat (ev_slL (ev_n 0 rfl) rfl eo_none (eo_some (i := 2) ev_i rfl)) (ev_slL (ev_n 1 rfl) rfl eo_none (eo_some (i := 1) ev_i rfl)) rfl rfl (cz _ _ (cl b _ _ hb) (cl s _ _ hs))) ?_
        refine ss_set 4 nd (ev_lst (ea_cons (ev_tuple (ev_sorted (ns := b.take 1 ++ s.take 1) (ev_cat (ev_slL (ev_n 0 rfl) rfl eo_none (eo_some (i := 1) ev_i rfl)) (ev_slL (ev_n 1 rfl) rfl eo_none (eo_some (i := 1) ev_i rfl)) rfl rfl (cz _ _ (cl b _ _ hb) (cl s _ _ hs))) (by show cutD (b.map .int) none (some 1) ++ cutD (s.map .int) none (some 1) = _; rw [u1 b hb, u1 s hs, List.map_append]) T.sorted) T.tuple) (ea_cons (ev_tuple (ev_sorted (ns := (b.drop 1).take 1 ++ s.take 1) (ev_cat (ev_slL (ev_n 0 rfl) rfl (eo_some (i := 1) ev_i rfl) (eo_some (i := 2) ev_i rfl)) (ev_slL (ev_n 1 rfl) rfl eo_none (eo_some (i := 1) ev_i rfl)) rfl rfl (cz _ _ (cl b _ _ hb) (cl s _ _ hs))) (by show cutD (b.map .int) (some 1) (some 2) ++ cutD (s.map .int) none (some 1) = _; rw [u1 s hs, m2 b, List.map_append]) T.sorted) T.tuple) ea_nil))) (ss_nil ?_)
        have e4 : D.lst (cutD (b.map .int) none (some 2) ++ cutD (s.map .int) none (some 1)) = eL (b.take 2 ++ s.take 1) := by rw [u2 b hb, u1 s hs, eL, List.map_append]
        show SS _ _ _ [_, _, _, .val (.lst (cutD (b.map .int) none (some 2) ++ cutD (s.map .int) none (some 1))), .val (.lst [eT (isort (b.take 1 ++ s.take 1)), eT (isort ((b.drop 1).take 1 ++ s.take 1))])]
        rw [e4]
        exact fin _ _ _
      · rw [if_neg (of_decide_eq_false ht)]
        exact fin _ _ _
end
end N50
/-! text L13 -/
set_option maxHeartbeats 4000000
namespace N50
open PySem PySem.Spec PyProof.Rows L2
theorem lMixed_all (ds cs : List Int) : (lMixed ds cs 8).2.Perm cs := by
  have h : ∀ (cs : List Int) (q : List Int × List Int), (cs.foldl (lMixStep 8) q).2.Perm (q.2 ++ cs) := by
    intro cs
    induction cs with
    | nil => intro q; simp
    | cons c cs ih =>
      intro q
      have e : (lMixStep 8 q c).2 = q.2.take (tk ((q.2.length : Int) + 1) (tk 8 q.1).2).1.toNat ++ [c] ++ q.2.drop (tk ((q.2.length : Int) + 1) (tk 8 q.1).2).1.toNat := by
        unfold lMixStep; rw [if_pos (tk_lt (by decide) _).2]
      rw [List.foldl_cons]
      refine (ih _).trans ?_
      rw [e]
      have := (insAt_perm q.2 (tk ((q.2.length : Int) + 1) (tk 8 q.1).2).1.toNat c).append_right cs
      rwa [List.append_assoc q.2] at this
  have := h cs (ds, [])
  rwa [List.nil_append] at this
theorem lU_fold (pl nu : List Int) : ∀ (ks : List Int) (q : (List Con × List (Str × Ch)) × List Int), (ks.foldl (lUStep pl nu) q).2.length ≤ q.2.length ∧ (ks.foldl (lUStep pl nu) q).1.1.length = q.1.1.length + ks.length ∧ (ks.foldl (lUStep pl nu) q).1.2.length = q.1.2.length + ks.length
  | [], q => by simp
  | k :: ks, q => by
    have h := lU_fold pl nu ks (lUStep pl nu q k)
    have h1 : (lUStep pl nu q k).2.length ≤ q.2.length := Nat.le_trans (tk_le _ _) (tk_le _ _)
    have h2 : (lUStep pl nu q k).1.1.length = q.1.1.length + 1 := by unfold lUStep lUStep2; simp
    have h3 : (lUStep pl nu q k).1.2.length = q.1.2.length + 1 := by unfold lUStep lUStep2; simp
    rw [List.foldl_cons, List.length_cons]
    omega
theorem lUnsteady_le (ds : List Int) : (lUnsteady ds).2.length ≤ ds.length := by
  unfold lUnsteady lUnsteady1 lUEnd
  exact Nat.le_trans (lU_fold ..).1 (Nat.le_trans (lMixed_le ..) (lMixed_le ..))
theorem lUPairs_b : ∀ n : Nat, n < 5 → (0 ≤ (lUPairs.getD n (0, 0)).1 ∧ (lUPairs.getD n (0, 0)).1 < 5) ∧ (0 ≤ (lUPairs.getD n (0, 0)).2 ∧ (lUPairs.getD n (0, 0)).2 < 5) := by decide
def R_unsteady : List D → List Int → RK → List Int → Prop := fun ds ns r ns' => ds = [] ∧ r = .v (eWeb (lUnsteady ns).1) ∧ ns' = (lUnsteady ns).2
section
variable {P : Program} {w : World} {K : PySem.W.Frag} {mg : Str → Option Value} {base : Heap} {f : Addr} {fd : FuncData}
theorem ok_unsteady (F : Fun K "_law_unsteady_web" "_law_unsteady_web" s_law_unsteady_web f fd) (T : Bt mg) (Ct : Cal P w K mg base 1 "_law_take" (SpS 2 0 R_take K)) (Cm : Cal P w K mg base 2 "_law_mixed" (SpS 3 0 R_mixed K)) (Cw : Cal P w K mg base 1 "_law_word" (SpP 1 R_word K)) : FnOk P w K mg base CX0 3 f fd ["_law_draws_here"] (SpS 1 0 R_unsteady K) := by
  refine fn_S F sc_law_unsteady_web rfl (fun ds ns r ns' h => ?_) fun cdv A outer st H E ds ns r ns' hr h => ?_
  · obtain ⟨rfl, _, rfl⟩ := h
    exact ⟨rfl, Nat.zero_le _, fun z => Nat.le_trans (lUnsteady_le _) z⟩
  · obtain ⟨rfl, rfl, rfl⟩ := h
    have nd := sc_law_unsteady_web.nd
    have hr1 : Room 1 _ := hr.mono (by decide)
    have h5 : ∀ xs : List Int, xs.Perm [0, 1, 2, 3, 4] → xs.length = 5 ∧ (∀ k, k ∈ xs ↔ 0 ≤ k ∧ k < 5) := fun xs h => ⟨h.length_eq, fun k => by rw [h.mem_iff]; simp; omega⟩
    refine ss_set 1 nd (ev_listI (ns := (lMixed ns [0, 1, 2, 3, 4] 8).2) (Ev.wk (d' := eT (lMixed ns [0, 1, 2, 3, 4] 8).2) (ev_callS0 0 Cm hr (ea_cons (ev_lst (ea_cons ev_i (ea_cons ev_i (ea_cons ev_i (ea_cons ev_i (ea_cons ev_i ea_nil)))))) (ea_cons ev_i ea_nil)) rfl ⟨_, [0, 1, 2, 3, 4], 8, rfl, ⟨rfl, rfl⟩, by decide, rfl, rfl⟩) .n) rfl T.list) ?_
    have hp := h5 _ (lMixed_all ns [0, 1, 2, 3, 4])
    have e0 : lUnsteady ns = lUEnd (lMixed ns [0, 1, 2, 3, 4] 8).2 (lMixed (lMixed ns [0, 1, 2, 3, 4] 8).1 [0, 1, 2, 3, 4] 8) := rfl
    rw [e0]
    clear e0
    generalize (lMixed ns [0, 1, 2, 3, 4] 8).2 = pl at hp ⊢
    generalize (lMixed ns [0, 1, 2, 3, 4] 8).1 = d1
    refine ss_set 2 nd (ev_listI (ns := (lMixed d1 [0, 1, 2, 3, 4] 8).2) (Ev.wk (d' := eT (lMixed d1 [0, 1, 2, 3, 4] 8).2) (ev_callS0 0 Cm hr (ea_cons (ev_lst (ea_cons ev_i (ea_cons ev_i (ea_cons ev_i (ea_cons ev_i (ea_cons ev_i ea_nil)))))) (ea_cons ev_i ea_nil)) rfl ⟨_, [0, 1, 2, 3, 4], 8, rfl, ⟨rfl, rfl⟩, by decide, rfl, rfl⟩) .n) rfl T.list) ?_
    have hn := h5 _ (lMixed_all d1 [0, 1, 2, 3, 4])
    have e0 : lUEnd pl (lMixed d1 [0, 1, 2, 3, 4] 8) = (⟨((idxs 5).foldl (lUStep pl (lMixed d1 [0, 1, 2, 3, 4] 8).2) (([], []), (lMixed d1 [0, 1, 2, 3, 4] 8).1)).1.2, ((idxs 5).foldl (lUStep pl (lMixed d1 [0, 1, 2, 3, 4] 8).2) (([], []), (lMixed d1 [0, 1, 2, 3, 4] 8).1)).1.1⟩, ((idxs 5).foldl (lUStep pl (lMixed d1 [0, 1, 2, 3, 4] 8).2) (([], []), (lMixed d1 [0, 1, 2, 3, 4] 8).1)).2) := rfl
    rw [e0]
    clear e0
    generalize (lMixed d1 [0, 1, 2, 3, 4] 8).2 = nu at hn ⊢
    generalize (lMixed d1 [0, 1, 2, 3, 4] 8).1 = d2
    have n0 : atI (nu.map D.int) 0 = some (.int (nthI nu 0)) := at_nth ⟨by decide, by omega⟩
    have n1 : atI (nu.map D.int) 1 = some (.int (nthI nu 1)) := at_nth ⟨by decide, by omega⟩
    have n2 : atI (nu.map D.int) 2 = some (.int (nthI nu 2)) := at_nth ⟨by decide, by omega⟩
    have n3 : atI (nu.map D.int) 3 = some (.int (nthI nu 3)) := at_nth ⟨by decide, by omega⟩
    have n4 : atI (nu.map D.int) 4 = some (.int (nthI nu 4)) := at_nth ⟨by decide, by omega⟩
    refine ss_set 3 nd (ev_tuple (ev_sorted (ns := [nthI nu 1, nthI nu 2]) (ev_lst (ea_cons (ev_ix (d := .int (nthI nu 1)) (ev_n 2 rfl) ev_i rfl (by exact n1)) (ea_cons (ev_ix (d := .int (nthI nu 2)) (ev_n 2 rfl) ev_i rfl (by exact n2)) ea_nil))) rfl T.sorted) T.tuple) ?_
    refine ss_setN 4 nd (ev_lst (ea_cons (ev_tup (ea_cons ev_s (ea_cons (ev_tup (ea_cons (ev_tup (ea_cons (ev_ix (d := .int (nthI nu 0)) (ev_n 2 rfl) ev_i rfl (by exact n0)) ea_nil)) (ea_cons (ev_n 3 rfl) (ea_cons (ev_tup (ea_cons (ev_ix (d := .int (nthI nu 1)) (ev_n 2 rfl) ev_i rfl (by exact n1)) ea_nil)) (ea_cons (ev_tup (ea_cons (ev_ix (d := .int (nthI nu 2)) (ev_n 2 rfl) ev_i rfl (by exact n2)) ea_nil)) ea_nil))))) ea_nil))) ea_nil)) ?_
    refine ss_app 4 (ev_tup (ea_cons ev_s (ea_cons ev_i (ea_cons (ev_tup (ea_cons (ev_ix (d := .int (nthI nu 4)) (ev_n 2 rfl) ev_i rfl (by exact n4)) (ea_cons (ev_ix (d := .int (nthI nu 3)) (ev_n 2 rfl) ev_i rfl (by exact n3)) ea_nil))) (ea_cons ev_i (ea_cons (ev_tup ea_nil) ea_nil)))))) rfl (szb rfl) ?_
    refine ss_app 4 (ev_tup (ea_cons ev_s (ea_cons ev_i (ea_cons (ev_tup ea_nil) (ea_cons ev_i (ea_cons (ev_tup (ea_cons (ev_ix (d := .int (nthI nu 3)) (ev_n 2 rfl) ev_i rfl (by exact n3)) (ea_cons (ev_ix (d := .int (nthI nu 0)) (ev_n 2 rfl) ev_i rfl (by exact n0)) ea_nil))) ea_nil)))))) rfl (szb rfl) ?_
    refine ss_app 4 (ev_tup (ea_cons ev_s (ea_cons ev_i (ea_cons (ev_tup ea_nil) (ea_cons ev_i (ea_cons (ev_tup (ea_cons (ev_ix (d := .int (nthI nu 1)) (ev_n 2 rfl) ev_i rfl (by exact n1)) (ea_cons (ev_ix (d := .int (nthI nu 4)) (ev_n 2 rfl) ev_i rfl (by exact n4)) ea_nil))) ea_nil)))))) rfl (szb rfl) ?_
    refine ss_app 4 (ev_tup (ea_cons ev_s (ea_cons ev_i (ea_cons (ev_tup ea_nil) (ea_cons ev_i (ea_cons (ev_tup (ea_cons (ev_ix (d := .int (nthI nu 2)) (ev_n 2 rfl) ev_i rfl (by exact n2)) ea_nil)) ea_nil)))))) rfl (szb rfl) ?_
    refine ss_fz 4 rfl ?_
    refine ss_set 5 nd (ev_lst (ea_cons (ev_tup (ea_cons ev_i (ea_cons ev_i ea_nil))) (ea_cons (ev_tup (ea_cons ev_i (ea_cons ev_i ea_nil))) (ea_cons (ev_tup (ea_cons ev_i (ea_cons ev_i ea_nil))) (ea_cons (ev_tup (ea_cons ev_i (ea_cons ev_i ea_nil))) (ea_cons (ev_tup (ea_cons ev_i (ea_cons ev_i ea_nil))) ea_nil)))))) ?_
    refine ss_setN 6 nd (ev_lst ea_nil) ?_
    refine ss_setN 7 nd (ev_lst ea_nil) ?_
    refine ss_forF (xs := idxs 5) (enc := .int) (fun q : (List Con × List (Str × Ch)) × List Int => [.own false (eL q.2), .val (eL pl), .val (eL nu), .val (eT (isort [nthI nu 1, nthI nu 2])), .val (.lst ((lUChoices nu).map ePl)), .val (.lst (lUPairs.map ePr)), .own true (.lst (q.1.1.map eCon)), .own true (.lst (q.1.2.map eHs)), .no, .no]) (lUStep pl nu) (fun i q => q.1.1.length = i ∧ q.1.2.length = i) (([], []), d2) .never (ei_idx (n := 5) ev_i rfl (by decide) T.range) ⟨rfl, rfl⟩ (by repeat (first | exact le_nil | refine le_no ?_ | refine le_eq ?_)) (fun i k q hx hJ => ⟨?_, _, _, (eg_n 8 nd), ?_⟩) (fun hJ => ?_)
    · have := lU_fold pl nu [k] q
      simp only [List.foldl_cons, List.foldl_nil, List.length_cons, List.length_nil] at this
      omega
    · have hi := lt_of_get hx
      rw [idxs_len] at hi
      have hk := idxs_mem.mp (mem_of_get hx)
      have hkn : k ∈ nu := (hn.2 k).mpr ⟨hk.1, by have := hk.2; omega⟩
      have hkp : k ∈ pl := (hp.2 k).mpr ⟨hk.1, by have := hk.2; omega⟩
      have in5 : nu.idxOf k < 5 := by have := List.idxOf_lt_length_of_mem hkn; omega
      have ip5 : pl.idxOf k < 5 := by have := List.idxOf_lt_length_of_mem hkp; omega
      have hpr := lUPairs_b _ in5
      have eU : lUPair nu k = lUPairs.getD (nu.idxOf k) (0, 0) := rfl
      rw [← eU] at hpr
      have a1 : atI (pl.map D.int) (lUPair nu k).1 = some (.int (nthI pl (lUPair nu k).1)) := at_nth ⟨hpr.1.1, by have := hpr.1.2; omega⟩
      have a2 : atI (pl.map D.int) (lUPair nu k).2 = some (.int (nthI pl (lUPair nu k).2)) := at_nth ⟨hpr.2.1, by have := hpr.2.2; omega⟩
      have a3 : atI (lUPairs.map ePr) ((nu.idxOf k : Nat) : Int) = some (ePr (lUPair nu k)) := atN (g := ePr) (xs := lUPairs) (0, 0) in5
      have a4 : atI ((lUChoices nu).map ePl) ((pl.idxOf k : Nat) : Int) = some (ePl (lUChoice pl nu k)) := atN (g := ePl) (xs := lUChoices nu) (.table []) ip5
      have est : lUStep pl nu q k = lUStep2 pl nu k q.1 (tk 9 q.2).1 (tk 7 (tk 9 q.2).2) := rfl
      rw [est]
      clear est
      refine ss_set 9 nd (ev_ix (d := ePr (lUPair nu k)) (ev_n 5 rfl) (ev_indexL (ns := nu) (ev_n 2 rfl) (ev_n 8 rfl) rfl rfl hkn) rfl a3) ?_
      refine ss_app 6 (ev_tup (ea_cons (ev_ix (ev_n 1 rfl) (ev_ix (d := .int (lUPair nu k).1) (ev_n 9 rfl) ev_i rfl rfl) rfl a1) (ea_cons (ev_ix (ev_n 1 rfl) (ev_ix (d := .int (lUPair nu k).2) (ev_n 9 rfl) ev_i rfl rfl) rfl a2) (ea_cons (ev_callS0 0 Ct hr1 (ea_cons ev_i ea_nil) rfl ⟨9, rfl, by decide, rfl, rfl⟩) ea_nil)))) rfl ?_ ?_
      · rw [List.length_map, hJ.1]; exact szl (by omega)
      · refine ss_app 7 (ev_tup (ea_cons (ev_call Cw hr1 (ea_cons (ev_add (ev_add ev_i (ev_mul (j := k) ev_i (ev_n 8 rfl) rfl rfl (.inl ⟨by decide, by decide⟩)) rfl rfl) (ev_callS0 0 Ct hr1 (ea_cons ev_i ea_nil) rfl ⟨7, rfl, by decide, rfl, rfl⟩) rfl rfl) ea_nil) ⟨_, rfl, rfl⟩) (ea_cons (ev_ix (d := ePl (lUChoice pl nu k)) (ev_n 4 rfl) (ev_indexL (ns := pl) (ev_n 1 rfl) (ev_n 8 rfl) rfl rfl hkp) rfl a4) ea_nil))) rfl ?_ (ss_nil ?_)
        · rw [List.length_map, hJ.2]; exact szl (by omega)
        · generalize tk 7 (tk 9 q.2).2 = b
          show Le [.own false (eL b.2), _, _, _, _, _, .own true (.lst ((q.1.1 ++ [(⟨nthI pl (lUPair nu k).1, nthI pl (lUPair nu k).2, (tk 9 q.2).1⟩ : Con)]).map eCon)), .own true (.lst ((q.1.2 ++ [(lWord (1 + 7 * k + b.1), Ch.pl (lUChoice pl nu k))]).map eHs)), _, _] _
          rw [List.map_append, List.map_append]
          repeat (first | exact le_nil | refine le_no ?_ | refine le_eq ?_)
    · exact ss_fz 6 rfl (ss_fz 7 rfl (ss_ret (ev_tup (ea_cons (ev_tuple (ev_n 7 rfl) T.tuple) (ea_cons (ev_tuple (ev_n 6 rfl) T.tuple) ea_nil))) ⟨_, .inl rfl, rfl, rfl⟩))
end
end N50
/-! text L14 -/
set_option maxHeartbeats 4000000
namespace N50
open PySem PySem.Spec PyProof.Rows L2
theorem Ev.scS {X : Cx} {a : Expr} {ρ ρ1 : En} {r : RK} {m : Bool} {x : Str} (h : Ev X a ρ r m ρ1) (e : r.d = .str x) : Ev X a ρ (.v (.str x)) m ρ1 := fun B G M O σ H Q S k => h B G M O σ H Q S fun v H' s S' rr => k v H' s S' (by
  have q := rr.low
  rw [e] at q
  rw [den_str q]
  exact .str _)
theorem lOrd_fold : ∀ (ks : List Int) (q : List Int × List Int), (ks.foldl lOrdStep q).2.length ≤ q.2.length ∧ (ks.foldl lOrdStep q).1.Perm (q.1 ++ ks)
  | [], q => by simp
  | k :: ks, q => by
    have h := lOrd_fold ks (lOrdStep q k)
    rw [List.foldl_cons]
    refine ⟨Nat.le_trans h.1 (tk_le _ _), h.2.trans ?_⟩
    have := (insAt_perm q.1 (tk (k + 1) q.2).1.toNat k).append_right ks
    rwa [List.append_assoc q.1] at this
theorem lOrder_perm (ds : List Int) (n : Nat) : (lOrder ds n).1.Perm (idxs n) := by
  have := (lOrd_fold (idxs n) ([], ds)).2
  rwa [List.nil_append] at this
theorem lHouse1_le (s : List Int) (cs : List Con) (k : Int) (a : Int × List Int) : (lHouse1 s cs k a).2.length ≤ a.2.length := by
  unfold lHouse1 lHouse2 lHouse3
  exact Nat.le_trans (lPick_le ..) (tk_le _ _)
theorem lHouse_fold (s : List Int) (cs : List Con) : ∀ (ks : List Int) (q : List (Str × Ch) × List Int), (ks.foldl (lHouseStep s cs) q).2.length ≤ q.2.length ∧ (ks.foldl (lHouseStep s cs) q).1.length = q.1.length + ks.length
  | [], q => by simp
  | k :: ks, q => by
    have h := lHouse_fold s cs ks (lHouseStep s cs q k)
    have h1 : (lHouseStep s cs q k).2.length ≤ q.2.length := Nat.le_trans (lHouse1_le ..) (tk_le _ _)
    have h2 : (lHouseStep s cs q k).1.length = q.1.length + 1 := by unfold lHouseStep; simp
    rw [List.foldl_cons, List.length_cons]
    omega
theorem lSteady_le (s ds : List Int) : (lSteady s ds 5 5).2.length ≤ ds.length := by
  unfold lSteady lSteady1 lSteady2 lSteady3 lSteady4
  refine Nat.le_trans (lHouse_fold ..).1 (Nat.le_trans (lPrs_len ..) (Nat.le_trans (tk_le _ _) (Nat.le_trans (lOrd_fold _ _).1 (tk_le _ _))))
theorem lPairs_n (s ds order : List Int) (most shape : Int) (h : 0 ≤ most) : ((lPairs s ds order most shape).1.length : Int) ≤ most := by
  unfold lPairs
  rw [(lPairs_fold ..).1, idxs_len]
  have := tk_lt (by omega : 0 < most + 1) ds
  simp only [List.length_nil]
  omega
theorem lWordGo_len : ∀ (n : Nat) (k : Int) (w : Str), (lWordGo n k w).length ≤ n + w.length
  | 0, k, w => by simp [lWordGo]
  | n + 1, k, w => by
    unfold lWordGo
    split
    · omega
    · refine Nat.le_trans (lWordGo_len n _ _) ?_
      show n + (_ ++ w.cps : Array Nat).size ≤ n + 1 + w.cps.size
      rw [Array.size_append]
      show n + (1 + _) ≤ _
      omega
theorem lWord_len (k : Int) : (lWord k).length ≤ 60 := lWordGo_len 60 k ""
def R_steady : List D → List Int → RK → List Int → Prop := fun ds ns r ns' => ∃ s : List Int, ds = [.scr s, .int 5, .int 5] ∧ r = .v (eWeb (lSteady s ns 5 5).1) ∧ ns' = (lSteady s ns 5 5).2
theorem cRow (cs : List Con) (h : cs.length ≤ 5) (k : Int) : (cBuys cs k).length ≤ 5 ∧ (cSells cs k).length ≤ 5 ∧ RowOk cs.length (cBuys cs k) ∧ RowOk cs.length (cSells cs k) := by
  have l1 : (cBuys cs k).length ≤ cs.length := Nat.le_trans (List.length_filter_le ..) (by rw [idxs_len]; exact Nat.le_refl _)
  have l2 : (cSells cs k).length ≤ cs.length := Nat.le_trans (List.length_filter_le ..) (by rw [idxs_len]; exact Nat.le_refl _)
  exact ⟨by omega, by omega, ⟨by omega, fun x hx => idxs_mem.mp (List.mem_filter.mp hx).1⟩, ⟨by omega, fun x hx => idxs_mem.mp (List.mem_filter.mp hx).1⟩⟩
section
variable {P : Program} {w : World} {K : PySem.W.Frag} {mg : Str → Option Value} {base : Heap} {f : Addr} {fd : FuncData}
set_option maxHeartbeats 8000000 in
theorem ok_steady (F : Fun K "_law_steady_web" "_law_steady_web" s_law_steady_web f fd) (T : Bt mg) (Ct : Cal P w K mg base 1 "_law_take" (SpS 2 0 R_take K)) (Cq : Cal P w K mg base 3 "_law_pairs" (SpS 5 1 R_pairs K)) (Cw : Cal P w K mg base 1 "_law_word" (SpP 1 R_word K)) (Cp : Cal P w K mg base 5 "_law_choice" (SpS 4 1 R_pick K)) : FnOk P w K mg base CX0 6 f fd ["_law_script", "_law_draws_here", "_law_many", "_law_most"] (SpS 4 1 R_steady K) := by
  refine fn_S F sc_law_steady_web rfl (fun ds ns r ns' h => ?_) fun cdv A outer st H E ds ns r ns' hr h => ?_
  · obtain ⟨s, rfl, _, rfl⟩ := h
    exact ⟨rfl, Nat.succ_le_succ (Nat.zero_le _), fun z => Nat.le_trans (lSteady_le ..) z⟩
  · obtain ⟨s, rfl, rfl, rfl⟩ := h
    have nd := sc_law_steady_web.nd
    have hr1 : Room 1 _ := hr.mono (by decide)
    have hr3 : Room 3 _ := hr.mono (by decide)
    have h4 := tk_lt (many := 5 - 1) (by decide) ns
    refine ss_set 4 nd (ev_add ev_i (ev_callS0 1 Ct hr1 (ea_cons (ev_sub (ev_n 2 rfl) ev_i rfl rfl) ea_nil) rfl ⟨5 - 1, rfl, by decide, rfl, rfl⟩) rfl rfl) ?_
    have e0 : lSteady s ns 5 5 = lSteady2 s 5 (2 + (tk (5 - 1) ns).1).toNat (lOrder (tk (5 - 1) ns).2 (2 + (tk (5 - 1) ns).1).toNat) := rfl
    rw [e0]
    clear e0
    obtain ⟨n, hn⟩ := Int.eq_ofNat_of_zero_le (by omega : 0 ≤ 2 + (tk (5 - 1) ns).1)
    show SS _ _ _ [_, _, _, _, .val (.int (2 + (tk (5 - 1) ns).1)), _, _, _, _, _, _, _, _]
    rw [hn, Int.toNat_natCast]
    have hn2 : 2 ≤ n ∧ n ≤ 5 := by omega
    clear h4 hn
    generalize (tk (5 - 1) ns).2 = d1
    refine ss_setN 5 nd (ev_lst ea_nil) ?_
    refine ss_forF (xs := idxs n) (enc := .int) (fun q : List Int × List Int => [.val (.scr s), .own false (eL q.2), .val (.int 5), .val (.int 5), .val (.int n), .own true (eL q.1), .no, .no, .no, .no, .no, .no, .no]) lOrdStep (fun i q => q.1.length = i) ([], d1) .never (ei_idx (n := n) (ev_n 4 rfl) rfl (by omega) T.range) rfl (by repeat (first | exact le_nil | refine le_no ?_ | refine le_eq ?_)) (fun i k q hx hJ => ⟨?_, _, _, (eg_n 6 nd), ?_⟩) (fun hJ => ?_)
    · unfold lOrdStep
      simp only [List.length_append, List.length_take, List.length_drop, List.length_singleton]
      omega
    · have hi := lt_of_get hx
      rw [idxs_len] at hi
      have hk := idxs_mem.mp (mem_of_get hx)
      have hp : (0 : Int) < k + 1 := by have := hk.1; omega
      have hb := tk_lt hp q.2
      obtain ⟨a, ha⟩ := Int.eq_ofNat_of_zero_le hb.1
      have est : lOrdStep q k = (q.1.take a ++ [k] ++ q.1.drop a, (tk (k + 1) q.2).2) := by unfold lOrdStep; rw [ha, Int.toNat_natCast]
      refine ss_ins 5 (n := a) (ea_cons (ev_callS0 1 Ct hr1 (ea_cons (ev_add (i := k) (ev_n 6 rfl) ev_i rfl rfl) ea_nil) rfl ⟨_, rfl, hp, rfl, rfl⟩) (ea_cons (ev_n 6 rfl) ea_nil)) (by show D.int _ = D.int _; rw [ha]) (by have := hk.2; omega) rfl ?_ (ss_nil ?_)
      · rw [List.length_map]; exact szl (by omega)
      · rw [est]
        have e2 : eL (q.1.take a ++ [k] ++ q.1.drop a) = .lst ((q.1.map D.int).take a ++ [.int k] ++ (q.1.map D.int).drop a) := by
          rw [eL, List.map_append, List.map_append, List.map_take, List.map_drop]; rfl
        show Le [_, .own false (eL (tk (k + 1) q.2).2), _, _, _, .own true (eL (q.1.take a ++ [k] ++ q.1.drop a)), _, _, _, _, _, _, _] _
        rw [e2]
        repeat (first | exact le_nil | refine le_no ?_ | refine le_eq ?_)
    · have ho := lOrder_perm d1 n
      have eo : (idxs n).foldl lOrdStep ([], d1) = lOrder d1 n := rfl
      rw [eo]
      clear eo hJ
      generalize lOrder d1 n = o at ho ⊢
      obtain ⟨o, d2⟩ := o
      have hol : o.length = n := by rw [ho.length_eq, idxs_len]
      have e0 : lSteady2 s 5 n (o, d2) = lSteady4 s n (lPairs s (tk 4 d2).2 o 5 (tk 4 d2).1) := rfl
      rw [e0]
      clear e0
      refine ss_fz 5 rfl ?_
      refine ss_set 7 nd (ev_callS1 1 Cq hr3 (ev_n 0 rfl) (ea_cons (ev_n 5 rfl) (ea_cons (ev_n 3 rfl) (ea_cons (ev_callS0 1 Ct hr1 (ea_cons ev_i ea_nil) rfl ⟨4, rfl, by decide, rfl, rfl⟩) ea_nil))) rfl ⟨s, o, 5, _, rfl, by omega, by omega, by decide, by decide, rfl, rfl⟩) ?_
      have hcs : (lPairs s (tk 4 d2).2 o 5 (tk 4 d2).1).1.length ≤ 5 := by have := lPairs_n s (tk 4 d2).2 o 5 (tk 4 d2).1 (by decide); omega
      generalize lPairs s (tk 4 d2).2 o 5 (tk 4 d2).1 = p at hcs ⊢
      obtain ⟨cs, d3⟩ := p
      dsimp only at hcs
      have e0 : lSteady4 s n (cs, d3) = (⟨((idxs n).foldl (lHouseStep s cs) ([], d3)).1, cs⟩, ((idxs n).foldl (lHouseStep s cs) ([], d3)).2) := rfl
      rw [e0]
      clear e0
      refine ss_setN 8 nd (ev_lst ea_nil) ?_
      refine ss_forF (xs := idxs n) (enc := .int) (fun q : List (Str × Ch) × List Int => [.val (.scr s), .own false (eL q.2), .val (.int 5), .val (.int 5), .val (.int n), .val (eL o), .no, .val (.lst (cs.map eCon)), .own true (.lst (q.1.map eHs)), .no, .no, .no, .no]) (lHouseStep s cs) (fun i q => q.1.length = i) ([], d3) .never (ei_idx (n := n) (ev_n 4 rfl) rfl (by omega) T.range) rfl (by repeat (first | exact le_nil | refine le_no ?_ | refine le_eq ?_)) (fun i k q hx hJ => ⟨?_, _, _, (eg_n 6 nd), ?_⟩) (fun hJ => ?_)
      · unfold lHouseStep; simp [hJ]
      · have hi := lt_of_get hx
        rw [idxs_len] at hi
        have hk := idxs_mem.mp (mem_of_get hx)
        have hrow := cRow cs hcs k
        have est : lHouseStep s cs q k = (q.1 ++ [(lHouse1 s cs k (tk 7 q.2)).1], (lHouse1 s cs k (tk 7 q.2)).2) := rfl
        rw [est]
        clear est
        refine ss_setLc 9 (xs := idxs cs.length) (enc := .int) (fun c => decide (buyOf ⟨[], cs⟩ c = k)) .int [("_law_number", 12)] nd (EvI.pure (ei_idx (n := cs.length) (ev_len (ev_n 7 rfl) T.len) (lenM eCon cs) (by omega) T.range)) (fun c hc => by
          obtain ⟨kk, e1, e2, e3, e4, e5⟩ := at_con (w := ⟨[], cs⟩) (idxs_mem.mp hc)
          exact ⟨_, fun s H C cl fp => (eg_n 12 nd), fun s H C cl fp => (ets_one (et_c (ec_eq (ev_ix (d := .int (buyOf ⟨[], cs⟩ c)) (ev_ix (d := eCon kk) (ev_n 7 rfl) (ev_n 12 rfl) rfl (by exact e1)) ev_i rfl (by rw [e3]; rfl)) (ev_n 6 rfl) (.int _ _)))), fun _ => ⟨_, fun s H C cl fp => (ev_n 12 rfl), rfl, rfl⟩⟩) ?_
        refine ss_setLc 10 (xs := idxs cs.length) (enc := .int) (fun c => decide (selOf ⟨[], cs⟩ c = k)) .int [("_law_number", 12)] nd (EvI.pure (ei_idx (n := cs.length) (ev_len (ev_n 7 rfl) T.len) (lenM eCon cs) (by omega) T.range)) (fun c hc => by
          obtain ⟨kk, e1, e2, e3, e4, e5⟩ := at_con (w := ⟨[], cs⟩) (idxs_mem.mp hc)
          exact ⟨_, fun s H C cl fp => (eg_n 12 nd), fun s H C cl fp => (ets_one (et_c (ec_eq (ev_ix (d := .int (selOf ⟨[], cs⟩ c)) (ev_ix (d := eCon kk) (ev_n 7 rfl) (ev_n 12 rfl) rfl (by exact e1)) ev_i rfl (by rw [e2]; rfl)) (ev_n 6 rfl) (.int _ _)))), fun _ => ⟨_, fun s H C cl fp => (ev_n 12 rfl), rfl, rfl⟩⟩) ?_
        have h3 := tk_lt (many := 3) (by decide) (tk 7 q.2).2
        have eN : ∀ (a b : Int), lWord (1 + 7 * k + a) ++ (if (if (decide (k = 0)) = true then (1 : Int) else 0) = 0 then Str.empty else lXX b) = lName k a b := fun a b => by
          unfold lName
          by_cases hk0 : k = 0
          · rw [if_pos hk0, decide_eq_true hk0]; rfl
          · rw [if_neg hk0, decide_eq_false hk0]; rfl
        refine ss_set 11 nd (ev_cats (x := lWord (1 + 7 * k + (tk 7 q.2).1)) (y := if (if (decide (k = 0)) = true then (1 : Int) else 0) = 0 then Str.empty else lXX (tk 3 (tk 7 q.2).2).1) (ev_call Cw hr1 (ea_cons (ev_add (ev_add ev_i (ev_mul (j := k) ev_i (ev_n 6 rfl) rfl rfl (.inl ⟨by decide, by decide⟩)) rfl rfl) (ev_callS0 1 Ct hr1 (ea_cons ev_i ea_nil) rfl ⟨7, rfl, by decide, rfl, rfl⟩) rfl rfl) ea_nil) ⟨_, rfl, rfl⟩) (ev_smul (n := if (decide (k = 0)) = true then 1 else 0) (ev_ix (d := .str (lXX (tk 3 (tk 7 q.2).2).1)) (ev_lst (ea_cons ev_s (ea_cons ev_s (ea_cons ev_s ea_nil)))) (ev_callS0 1 Ct hr1 (ea_cons ev_i ea_nil) rfl ⟨3, rfl, by decide, rfl, rfl⟩) rfl ?_) (ev_intB (i := decide (k = 0)) (ev_c (ec_eq (ev_n 6 rfl) ev_i (.int _ _))) rfl T.int) rfl rfl ?_) rfl rfl ?_) ?_
        · rcases (by omega : (tk 3 (tk 7 q.2).2).1 = 0 ∨ (tk 3 (tk 7 q.2).2).1 = 1 ∨ (tk 3 (tk 7 q.2).2).1 = 2) with e | e | e
          · rw [e]; rfl
          · rw [e]; rfl
          · rw [e]; rfl
        · split
          · exact .inr rfl
          · exact .inl rfl
        · have := lWord_len (1 + 7 * k + (tk 7 q.2).1)
          have l2 : ∀ b, (lXX b).length ≤ 2 := fun b => by unfold lXX; split <;> decide
          have l3 : ∀ z b : Int, (if z = 0 then Str.empty else lXX b).length ≤ 2 := fun z b => by
            split
            · decide
            · exact l2 b
          have := l3 (if (decide (k = 0)) = true then 1 else 0) (tk 3 (tk 7 q.2).2).1
          exact szc (by omega)
        · show SS _ _ _ [_, _, _, _, _, _, _, _, _, _, _, .val (.str (lWord (1 + 7 * k + (tk 7 q.2).1) ++ (if (if (decide (k = 0)) = true then (1 : Int) else 0) = 0 then Str.empty else lXX (tk 3 (tk 7 q.2).2).1))), _]
          rw [eN]
          have e0 : lHouse1 s cs k (tk 7 q.2) = lHouse3 s cs k (lName k (tk 7 q.2).1 (tk 3 (tk 7 q.2).2).1) (lPick s (tk 3 (tk 7 q.2).2).2 (cBuys cs k) (cSells cs k)) := rfl
          rw [e0]
          clear e0 eN h3
          generalize lName k (tk 7 q.2).1 (tk 3 (tk 7 q.2).2).1 = nm
          generalize (tk 3 (tk 7 q.2).2).2 = d4
          refine ss_app 8 (ev_tup (ea_cons (ev_n 11 rfl) (ea_cons (ev_callS1 1 Cp hr (ev_n 0 rfl) (ea_cons (ev_n 9 rfl) (ea_cons (ev_n 10 rfl) ea_nil)) rfl ⟨s, cBuys cs k, cSells cs k, rfl, hrow.1, hrow.2.1, ⟨cs.length, hrow.2.2.1, hrow.2.2.2⟩, rfl, rfl⟩) ea_nil))) rfl ?_ (ss_nil ?_)
          · rw [List.length_map, hJ]; exact szl (by omega)
          · generalize lPick s d4 (cBuys cs k) (cSells cs k) = pr
            show Le [_, .own false (eL pr.2), _, _, _, _, _, _, .own true (.lst ((q.1 ++ [(nm, pr.1)]).map eHs)), _, _, _, _] _
            rw [List.map_append]
            repeat (first | exact le_nil | refine le_no ?_ | refine le_eq ?_)
      · exact ss_fz 8 rfl (ss_ret (ev_tup (ea_cons (ev_tuple (ev_n 8 rfl) T.tuple) (ea_cons (ev_tuple (ev_n 7 rfl) T.tuple) ea_nil))) ⟨_, .inl rfl, rfl, rfl⟩)
end
end N50
/-! text L15 -/
set_option maxHeartbeats 4000000
namespace N50
open PySem PySem.Spec PyProof.Rows L2
theorem lWild_fold (cs : List Con) : ∀ (ks : List Int) (q : List (Str × Ch) × List Int), (ks.foldl (lWildStep cs) q).2.length ≤ q.2.length ∧ (ks.foldl (lWildStep cs) q).1.length = q.1.length
  | [], q => by simp
  | k :: ks, q => by
    have h := lWild_fold cs ks (lWildStep cs q k)
    have h1 : (lWildStep cs q k).2.length ≤ q.2.length := by
      unfold lWildStep
      split
      · exact tk_le _ _
      · exact Nat.le_refl _
    have h2 : (lWildStep cs q k).1.length = q.1.length := by
      unfold lWildStep
      split
      · dsimp only
        split
        · unfold setH; exact List.length_set
        · rfl
      · rfl
    rw [List.foldl_cons]
    omega
theorem lWeb_le (s ds : List Int) : (lWeb s ds).2.length ≤ ds.length := by
  unfold lWeb lWeb1
  split
  · exact Nat.le_trans (lUnsteady_le _) (tk_le _ _)
  · split
    · exact Nat.le_trans (lSteady_le _ _) (tk_le _ _)
    · unfold lWilds
      exact Nat.le_trans (lWild_fold ..).1 (Nat.le_trans (lSteady_le _ _) (tk_le _ _))
theorem lSteady_n (s ds : List Int) : (lSteady s ds 5 5).1.cs.length ≤ 5 ∧ 2 ≤ (lSteady s ds 5 5).1.hs.length ∧ (lSteady s ds 5 5).1.hs.length ≤ 5 := by
  unfold lSteady lSteady1 lSteady2 lSteady3 lSteady4
  have h4 := tk_lt (many := 5 - 1) (by decide) ds
  refine ⟨?_, ?_, ?_⟩
  · dsimp only
    have := lPairs_n s (tk 4 (lOrder (tk (5 - 1) ds).2 (2 + (tk (5 - 1) ds).1).toNat).2).2 (lOrder (tk (5 - 1) ds).2 (2 + (tk (5 - 1) ds).1).toNat).1 5 (tk 4 (lOrder (tk (5 - 1) ds).2 (2 + (tk (5 - 1) ds).1).toNat).2).1 (by decide)
    omega
  · dsimp only
    rw [(lHouse_fold ..).2, idxs_len, List.length_nil]; omega
  · dsimp only
    rw [(lHouse_fold ..).2, idxs_len, List.length_nil]; omega
def R_web : List D → List Int → RK → List Int → Prop := fun ds ns r ns' => ∃ s : List Int, ds = [.scr s, .int 5, .int 5] ∧ r = .v (eWeb (lWeb s ns).1) ∧ ns' = (lWeb s ns).2
section
variable {P : Program} {w : World} {K : PySem.W.Frag} {mg : Str → Option Value} {base : Heap} {f : Addr} {fd : FuncData}
set_option maxHeartbeats 8000000 in
theorem ok_web (F : Fun K "_law_web" "_law_web" s_law_web f fd) (T : Bt mg) (Ct : Cal P w K mg base 1 "_law_take" (SpS 2 0 R_take K)) (Cu : Cal P w K mg base 3 "_law_unsteady_web" (SpS 1 0 R_unsteady K)) (Cs : Cal P w K mg base 6 "_law_steady_web" (SpS 4 1 R_steady K)) (Cw : Cal P w K mg base 1 "_law_wild" (SpP 2 R_wild K)) : FnOk P w K mg base CX0 7 f fd ["_law_script", "_law_draws_here", "_law_many", "_law_most"] (SpS 4 1 R_web K) := by
  refine fn_S F sc_law_web rfl (fun ds ns r ns' h => ?_) fun cdv A outer st H E ds ns r ns' hr h => ?_
  · obtain ⟨s, rfl, _, rfl⟩ := h
    exact ⟨rfl, Nat.succ_le_succ (Nat.zero_le _), fun z => Nat.le_trans (lWeb_le ..) z⟩
  · obtain ⟨s, rfl, rfl, rfl⟩ := h
    have nd := sc_law_web.nd
    have hr1 : Room 1 _ := hr.mono (by decide)
    have hr3 : Room 3 _ := hr.mono (by decide)
    refine ss_set 4 nd (ev_callS0 1 Ct hr1 (ea_cons ev_i ea_nil) rfl ⟨10, rfl, by decide, rfl, rfl⟩) ?_
    have e0 : lWeb s ns = lWeb1 s (tk 10 ns) := rfl
    rw [e0]
    clear e0
    generalize tk 10 ns = k
    obtain ⟨k, d1⟩ := k
    have eW : lWeb1 s (k, d1) = if k = 0 then lUnsteady d1 else if 1 < k then lSteady s d1 5 5 else lWilds (lSteady s d1 5 5) := rfl
    rw [eW]
    clear eW
    refine ss_when (t := decide (k = 0)) (EvT.is (et_w (ew_and (et_c (ec_eq (ev_n 4 rfl) ev_i (.int _ _))) (fun _ => (ew_and1 (et_c (ec_gt (ev_min2 (i := 5) (j := 5) (ea_cons (ev_n 2 rfl) (ea_cons (ev_n 3 rfl) ea_nil)) rfl rfl T.min) ev_i rfl rfl)))))) ?_) (fun ht => ?_) (fun ht => ?_)
    · rw [show decide ((4 : Int) < mn2 5 5) = true by decide, Bool.and_true]
    · rw [if_pos (of_decide_eq_true ht)]
      exact ss_ret (ev_callS0 1 Cu hr3 ea_nil rfl ⟨rfl, rfl, rfl⟩) ⟨_, .inl rfl, rfl, rfl⟩
    · rw [if_neg (of_decide_eq_false ht)]
      clear ht
      refine ss_set 5 nd (ev_callS1 1 Cs hr (ev_n 0 rfl) (ea_cons (ev_n 2 rfl) (ea_cons (ev_n 3 rfl) ea_nil)) rfl ⟨s, rfl, rfl, rfl⟩) ?_
      have hw := lSteady_n s d1
      generalize lSteady s d1 5 5 = v at hw ⊢
      obtain ⟨v, d2⟩ := v
      dsimp only at hw
      refine ss_when (et_c (ec_gt (i := k) (ev_n 4 rfl) ev_i rfl rfl)) (fun ht => ?_) (fun ht => ?_)
      · rw [if_pos (of_decide_eq_true ht)]
        exact ss_ret (ev_n 5 rfl) ⟨_, .inl rfl, rfl, rfl⟩
      · rw [if_neg (of_decide_eq_false ht)]
        clear ht
        refine ss_setN 6 nd (ev_list (ev_ix (ev_n 5 rfl) ev_i rfl rfl) T.list) ?_
        have eV : lWilds (v, d2) = (⟨((idxs v.hs.length).foldl (lWildStep v.cs) (v.hs, d2)).1, v.cs⟩, ((idxs v.hs.length).foldl (lWildStep v.cs) (v.hs, d2)).2) := rfl
        rw [eV]
        clear eV
        refine ss_forF (xs := idxs v.hs.length) (enc := .int) (fun q : List (Str × Ch) × List Int => [.val (.scr s), .own false (eL q.2), .val (.int 5), .val (.int 5), .val (.int k), .val (eWeb v), .own true (.lst (q.1.map eHs)), .no, .no, .no, .no]) (lWildStep v.cs) (fun i q => q.1.length = v.hs.length) (v.hs, d2) .never (ei_idx (n := v.hs.length) (ev_len (ev_o 6 rfl) T.len) (lenM eHs v.hs) (by omega) T.range) rfl (by repeat (first | exact le_nil | refine le_no ?_ | refine le_eq ?_)) (fun i h q hx hJ => ⟨?_, _, _, (eg_n 7 nd), ?_⟩) (fun hJ => ?_)
        · have := lWild_fold v.cs [h] q
          simp only [List.foldl_cons, List.foldl_nil] at this
          rw [this.2, hJ]
        · have hh := idxs_mem.mp (mem_of_get hx)
          have hrow := cRow v.cs hw.1 h
          refine ss_setLc 8 (xs := idxs v.cs.length) (enc := .int) (fun c => decide (buyOf ⟨[], v.cs⟩ c = h)) .int [("_law_number", 10)] nd (EvI.pure (ei_idx (n := v.cs.length) (ev_len (ev_ix (ev_n 5 rfl) ev_i rfl rfl) T.len) (lenM eCon v.cs) (by omega) T.range)) (fun c hc => by
            obtain ⟨kk, e1, e2, e3, e4, e5⟩ := at_con (w := ⟨[], v.cs⟩) (idxs_mem.mp hc)
            exact ⟨_, fun s H C cl fp => (eg_n 10 nd), fun s H C cl fp => (ets_one (et_c (ec_eq (ev_ix (d := .int (buyOf ⟨[], v.cs⟩ c)) (ev_ix (d := eCon kk) (ev_ix (ev_n 5 rfl) ev_i rfl rfl) (ev_n 10 rfl) rfl (by exact e1)) ev_i rfl (by rw [e3]; rfl)) (ev_n 7 rfl) (.int _ _)))), fun _ => ⟨_, fun s H C cl fp => (ev_n 10 rfl), rfl, rfl⟩⟩) ?_
          refine ss_setLc 9 (xs := idxs v.cs.length) (enc := .int) (fun c => decide (selOf ⟨[], v.cs⟩ c = h)) .int [("_law_number", 10)] nd (EvI.pure (ei_idx (n := v.cs.length) (ev_len (ev_ix (ev_n 5 rfl) ev_i rfl rfl) T.len) (lenM eCon v.cs) (by omega) T.range)) (fun c hc => by
            obtain ⟨kk, e1, e2, e3, e4, e5⟩ := at_con (w := ⟨[], v.cs⟩) (idxs_mem.mp hc)
            exact ⟨_, fun s H C cl fp => (eg_n 10 nd), fun s H C cl fp => (ets_one (et_c (ec_eq (ev_ix (d := .int (selOf ⟨[], v.cs⟩ c)) (ev_ix (d := eCon kk) (ev_ix (ev_n 5 rfl) ev_i rfl rfl) (ev_n 10 rfl) rfl (by exact e1)) ev_i rfl (by rw [e2]; rfl)) (ev_n 7 rfl) (.int _ _)))), fun _ => ⟨_, fun s H C cl fp => (ev_n 10 rfl), rfl, rfl⟩⟩) ?_
          show SS _ _ _ [.val (.scr s), .own false (eL q.2), .val (.int 5), .val (.int 5), .val (.int k), .val (eWeb v), .own true (.lst (q.1.map eHs)), .val (.int h), .val (eL (cBuys v.cs h)), .val (eL (cSells v.cs h)), .no]
          have est : lWildStep v.cs q h = if 2 < (cBuys v.cs h).length + (cSells v.cs h).length then (if 0 < (tk 4 q.2).1 then setH q.1 h (.pl (.table (lWild (cBuys v.cs h) (cSells v.cs h)))) else q.1, (tk 4 q.2).2) else q := rfl
          rw [est]
          clear est
          generalize cBuys v.cs h = b at hrow ⊢
          generalize cSells v.cs h = l at hrow ⊢
          have lb : D.int ((((RK.v (eL b)).d.its.length : Nat)) : Int) = .int ((b.length : Nat) : Int) := lenM D.int b
          have ll : D.int ((((RK.v (eL l)).d.its.length : Nat)) : Int) = .int ((l.length : Nat) : Int) := lenM D.int l
          by_cases h2 : 2 < b.length + l.length
          · rw [if_pos h2]
            refine ss_when (t := decide (0 < (tk 4 q.2).1)) (et_w (ew_andT (EvT.is (et_c (ec_gt (i := (b.length : Int) + (l.length : Int)) (ev_add (i := (b.length : Nat)) (j := (l.length : Nat)) (ev_len (ev_n 8 rfl) T.len) (ev_len (ev_n 9 rfl) T.len) lb ll) ev_i rfl rfl)) (by rw [decide_eq_true_iff]; omega)) (ew_and1 (et_c (ec_gt (ev_callS0 1 Ct hr1 (ea_cons ev_i ea_nil) rfl ⟨4, rfl, by decide, rfl, rfl⟩) ev_i rfl rfl))))) (fun ht => ?_) (fun ht => ?_)
            · rw [if_pos (of_decide_eq_true ht)]
              obtain ⟨a, rfl⟩ := Int.eq_ofNat_of_zero_le hh.1
              have ha : a < q.1.length := by rw [hJ]; have := hh.2; omega
              obtain ⟨x, e1, e2⟩ := at_map (g := eHs) (xs := q.1) (i := (a : Int)) (by omega) (by omega)
              have es : setH q.1 (a : Int) (.pl (.table (lWild b l))) = q.1.set a (x.1, .pl (.table (lWild b l))) := by
                unfold setH
                rw [e1, Int.toNat_natCast]
              refine ss_put 6 (ev_tup (ea_cons (Ev.scS (x := x.1) (ev_ix (d := .str x.1) (ev_ix (d := eHs x) (ev_o 6 rfl) (ev_n 7 rfl) rfl e2) ev_i rfl rfl) rfl) (ea_cons (ev_call Cw hr1 (ea_cons (ev_n 8 rfl) (ea_cons (ev_n 9 rfl) ea_nil)) ⟨b, l, rfl, hrow.1, hrow.2.1, rfl⟩) ea_nil))) (ev_n 7 rfl) rfl rfl ?_ (ss_nil (ss_nil ?_))
              · rw [List.length_map]; exact ha
              · rw [es]
                show Le [_, .own false (eL (tk 4 q.2).2), _, _, _, _, .own true (.lst ((q.1.set a (x.1, Ch.pl (.table (lWild b l)))).map eHs)), _, _, _, _] _
                rw [List.map_set]
                repeat (first | exact le_nil | refine le_no ?_ | refine le_eq ?_)
            · rw [if_neg (of_decide_eq_false ht)]
              refine ss_nil ?_
              repeat (first | exact le_nil | refine le_no ?_ | refine le_eq ?_)
          · rw [if_neg h2]
            refine ss_when (EvT.is (et_w (ew_andF (EvT.is (et_c (ec_gt (i := (b.length : Int) + (l.length : Int)) (ev_add (i := (b.length : Nat)) (j := (l.length : Nat)) (ev_len (ev_n 8 rfl) T.len) (ev_len (ev_n 9 rfl) T.len) lb ll) ev_i rfl rfl)) (by rw [decide_eq_false_iff_not]; omega)))) rfl) (fun ht => nomatch ht) (fun ht => ss_nil ?_)
            repeat (first | exact le_nil | refine le_no ?_ | refine le_eq ?_)
        · exact ss_fz 6 rfl (ss_ret (ev_tup (ea_cons (ev_tuple (ev_n 6 rfl) T.tuple) (ea_cons (ev_ix (ev_n 5 rfl) ev_i rfl rfl) ea_nil))) ⟨_, .inl rfl, rfl, rfl⟩)
end
end N50
/-! text W9 -/
set_option maxHeartbeats 4000000
namespace N50
open PySem PySem.Spec PyProof.Rows L2
section
variable {P : Program} {w : World} {K : PySem.W.Frag} {mg : Str → Option Value} {base : Heap} {f : Addr} {fd : FuncData}
theorem ok_sells_of (F : Fun K "sells_of" "sells_of" s_sells_of f fd) (T : Bt mg) : FnOk P w K mg base CX0 1 f fd ["web", "house"] (SpP 2 (R_wh sellsOf) K) := by
  refine fn_P F sc_sells_of rfl (fun ds r h => ?_) fun cdv A outer s H E ds r hr h => ?_
  · obtain ⟨w, h, rfl, _⟩ := h; rfl
  · obtain ⟨w, h, rfl, rfl⟩ := h
    have nd := sc_sells_of.nd
    refine ss_ret (ev_tuple (ev_lc (fun q => decide (q.1.s = h)) (fun q => .int (q.2 : Nat)) [("number", 2), ("contract", 3)] nd (EvI.pure (ei_enum (xs := w.cs) (enc := eCon) (ev_ix (ev_n 0 rfl) ev_i rfl rfl) rfl T.enumerate))
      (fun x hx => ⟨_, fun s H C cl fp => (eg_t (egs_n 2 nd (egs_n 3 nd egs_nil))), fun s H C cl fp => (ets_one (et_c (ec_eq (ev_ix (ev_n 3 rfl) ev_i rfl rfl) (ev_n 1 rfl) (.int _ _)))), fun _ => ⟨_, fun s H C cl fp => (ev_n 2 rfl), rfl, rfl⟩⟩)) T.tuple) ⟨_, .inl rfl, ?_⟩
    show RK.v _ = RK.v _
    unfold sellsOf
    rw [eT, mmI]
    rfl
theorem ok_own_contracts (F : Fun K "own_contracts" "own_contracts" s_own_contracts f fd) (T : Bt mg) : FnOk P w K mg base CX0 1 f fd ["web", "house"] (SpP 2 (R_wh ownOf) K) := by
  refine fn_P F sc_own_contracts rfl (fun ds r h => ?_) fun cdv A outer s H E ds r hr h => ?_
  · obtain ⟨w, h, rfl, _⟩ := h; rfl
  · obtain ⟨w, h, rfl, rfl⟩ := h
    have nd := sc_own_contracts.nd
    refine ss_ret (ev_tuple (ev_lc (fun q => decide (h ∈ [q.1.s, q.1.b])) (fun q => .int (q.2 : Nat)) [("number", 2), ("contract", 3)] nd (EvI.pure (ei_enum (xs := w.cs) (enc := eCon) (ev_ix (ev_n 0 rfl) ev_i rfl rfl) rfl T.enumerate))
      (fun x hx => ⟨_, fun s H C cl fp => (eg_t (egs_n 2 nd (egs_n 3 nd egs_nil))), fun s H C cl fp => (ets_one (et_c (ec_in (ns := [x.1.s, x.1.b]) (ev_n 1 rfl) (ev_slT (xs := [.int x.1.s, .int x.1.b, .int x.1.p]) (ev_n 3 rfl) rfl eo_none (eo_some (i := 2) ev_i rfl)) rfl (by exact rfl)))), fun _ => ⟨_, fun s H C cl fp => (ev_n 2 rfl), rfl, rfl⟩⟩)) T.tuple) ⟨_, .inl rfl, ?_⟩
    show RK.v _ = RK.v _
    unfold ownOf
    rw [eT, mmI]
    rfl
end
end N50
/-! text L16 -/
set_option maxHeartbeats 4000000
namespace N50
open PySem PySem.Spec PyProof.Rows L2
def everyOf (w : Web) : Int := lPow w.cs.length - 1
/-- what the law asks of a web, over plain data -/
structure LawOk (w : Web) : Prop where
  S : WS w
  D : Down w
  c5 : w.cs.length ≤ 5
  e0 : 0 ≤ everyOf w
  e1 : everyOf w ≤ 5000
  plan : PlanOk (everyOf w) (lPlan w)
  bits : ∀ net, 0 ≤ net → net ≤ everyOf w → ∀ lot ∈ lWithin (everyOf w - net), 0 ≤ Builtin.bitOr net lot ∧ Builtin.bitOr net lot ≤ everyOf w
  jd : ∀ m, 0 ≤ m → m ≤ everyOf w → judge w (lSet m) (toldOffers w (lSet m)) = decide (m ∈ lAtRest (lPlan w) (everyOf w))
  vd : ∀ m, 0 ≤ m → m ≤ everyOf w → ((∃ off, verdict w (lSet m) = .rest off) ↔ m ∈ lAtRest (lPlan w) (everyOf w))
def R_law : List D → RK → Prop := fun ds r => ∃ s : List Int, ds = [.scr s] ∧ s.length ≤ 63 ∧ LawOk (lWeb s (lDraws s 323)).1 ∧ r = .v (.bl true)
theorem verdict_rest {w : Web} {net off : List Int} (h : verdict w net = .rest off) : off = toldOffers w net := by
  unfold verdict at h
  split at h
  · cases h
  · split at h
    · cases h
    · cases h; rfl
def isRest : Vd → Bool | .rest _ => true | _ => false
theorem eqv_rest (v : Vd) (off : List Int) (h : ∀ o, v = .rest o → o = off) : PyData.eqv (eVd v).pd (D.tup [.str "rest", eT off]).pd = isRest v := by
  cases v with
  | drops hh ch => 
    show PyData.eqv (D.tup [.str "drops", .int hh, eT ch]).pd (D.tup [.str "rest", eT off]).pd = false
    simp [D.pd, D.pdL, PyData.eqv, PyData.eqvAll]
  | chain r =>
    show PyData.eqv (D.tup [.str "chain", eT r]).pd (D.tup [.str "rest", eT off]).pd = false
    simp [D.pd, D.pdL, PyData.eqv, PyData.eqvAll]
    intro h0
    exact absurd h0 (by decide +kernel)
  | rest o =>
    rw [h o rfl]
    show PyData.eqv (D.tup [.str "rest", eT off]).pd (D.tup [.str "rest", eT off]).pd = true
    have := eqv_eT off off
    simp [D.pd, D.pdL, PyData.eqv, PyData.eqvAll] at this ⊢
    exact this
theorem sh_ints (n : Nat) : ∀ ns : List Int, D.shL n (ns.map .int) = true
  | [] => by simp [D.shL]
  | k :: ns => by rw [List.map_cons, D.shL, sh_ints n ns]; simp [D.sh]
theorem sh_tT (n : Nat) (ns : List Int) : D.sh (n + 1) (eT ns) = true := by rw [eT, D.sh]; exact sh_ints n ns
theorem sh_vd (v : Vd) : (eVd v).sh 50 = true := by
  cases v with
  | drops h ch => show D.sh 50 (D.tup [.str "drops", .int h, eT ch]) = true; rw [D.sh, D.shL, D.shL, D.shL, D.shL, sh_tT 48]; simp [D.sh]; decide +kernel
  | chain r => show D.sh 50 (D.tup [.str "chain", eT r]) = true; rw [D.sh, D.shL, D.shL, D.shL, sh_tT 48]; simp [D.sh]; decide +kernel
  | rest r => show D.sh 50 (D.tup [.str "rest", eT r]) = true; rw [D.sh, D.shL, D.shL, D.shL, sh_tT 48]; simp [D.sh]; decide +kernel
theorem vd_fst (v : Vd) : ∃ t : Str, atI (eVd v).its 0 = some (.str t) ∧ decide (t = "rest") = isRest v ∧ (eVd v).seq = true := by
  cases v with
  | drops h ch => exact ⟨"drops", rfl, by show decide (Str.ofString "drops" = Str.ofString "rest") = false; decide +kernel, rfl⟩
  | chain r => exact ⟨"chain", rfl, by show decide (Str.ofString "chain" = Str.ofString "rest") = false; decide +kernel, rfl⟩
  | rest r => exact ⟨"rest", rfl, by show decide (Str.ofString "rest" = Str.ofString "rest") = true; decide +kernel, rfl⟩
section
variable {P : Program} {w : World} {K : PySem.W.Frag} {mg : Str → Option Value} {base : Heap} {f : Addr} {fd : FuncData}
set_option maxHeartbeats 8000000 in
theorem ok_law (F : Fun K "law" "law" s_law f fd) (T : Bt mg) (Cd : Cal P w K mg base 1 "_law_draws" (SpP 2 R_draws K)) (Cw : Cal P w K mg base 7 "_law_web" (SpS 4 1 R_web K)) (Cp : Cal P w K mg base 1 "_law_power" (SpP 1 R_power K)) (Cr : Cal P w K mg base 3 "_law_at_rest" (SpP 2 R_atrest K)) (Cl : Cal P w K mg base 6 "_law_plan" (SpP 1 R_plan K)) (Ce : Cal P w K mg base 2 "_law_set" (SpP 1 R_set K)) (Ct : Cal P w K mg base 7 "told_offers" (SpP 2 (R_wn fun w net => eT (toldOffers w net)) K)) (Cj : Cal P w K mg base 7 "judge" (SpP 3 R_judge K)) (Cs : Cal P w K mg base 1 "_law_same" (SpP 2 R_same K)) (Ci : Cal P w K mg base 8 "is_at_rest" (SpP 2 (R_wn fun w net => .bl (isAtRest w net)) K)) (Cv : Cal P w K mg base 10 "verdict" (SpP 2 (R_wn fun w net => eVd (verdict w net)) K)) : FnOk P w K mg base CX0 11 f fd ["_law_script"] (SpP 1 R_law K) := by
  refine fn_P F sc_law rfl (fun ds r h => ?_) fun cdv A outer st H E ds r hr h => ?_
  · obtain ⟨s, rfl, _⟩ := h; rfl
  · obtain ⟨s, rfl, hs, LO, rfl⟩ := h
    have nd := sc_law.nd
    have hu : (xOf P w K mg base ["_law_script", "_law_draws_here", "_law_web_here", "_law_every", "_law_rest", "_law_mask", "_law_network", "_law_offers", "_law_found"] "law" (defScope s_law) f cdv A outer st H E).A.units + 64 < cLine := hr.units
    refine ss_setN 1 nd (ev_call Cd (hr.mono (by decide)) (ea_cons (ev_n 0 rfl) (ea_cons ev_i ea_nil)) ⟨s, 323, rfl, by decide, by omega, rfl⟩) ?_
    refine ss_set 2 nd (ev_callS1 1 Cw (hr.mono (by decide)) (ev_n 0 rfl) (ea_cons ev_i (ea_cons ev_i ea_nil)) rfl ⟨s, rfl, rfl, rfl⟩) ?_
    generalize lWeb s (lDraws s 323) = wd at LO ⊢
    obtain ⟨v, d⟩ := wd
    dsimp only at LO
    have hlen : D.int ((((D.tup (v.cs.map eCon)).its.length : Nat)) : Int) = .int ((v.cs.length : Nat) : Int) := lenM eCon v.cs
    have hc := LO.c5
    refine ss_set 3 nd (ev_sub (i := lPow v.cs.length) (ev_call Cp (hr.mono (by decide)) (ea_cons (ev_len (ev_ix (ev_n 2 rfl) ev_i rfl rfl) T.len) ea_nil) ⟨(v.cs.length : Nat), by show [D.int ((((D.tup (v.cs.map eCon)).its.length : Nat)) : Int)] = _; rw [hlen], by omega, by omega, rfl⟩) ev_i rfl rfl) ?_
    show SS _ _ _ [_, _, _, .val (.int (everyOf v)), _, _, _, _, _]
    have e0 := LO.e0
    have e1 := LO.e1
    refine ss_set 4 nd (ev_call Cr (hr.mono (by decide)) (ea_cons (ev_call Cl (hr.mono (by decide)) (ea_cons (ev_n 2 rfl) ea_nil) ⟨v, rfl, LO.S, rfl⟩) (ea_cons (ev_n 3 rfl) ea_nil)) ⟨lPlan v, everyOf v, rfl, LO.plan, e0, e1, LO.bits, rfl⟩) ?_
    generalize hR : lAtRest (lPlan v) (everyOf v) = R at *
    have jd := LO.jd
    have vd := LO.vd
    rw [hR] at jd vd
    refine ss_forF (xs := idxs (everyOf v + 1).toNat) (enc := .int) (fun _ : Unit => [.val (.scr s), .own true (eL d), .val (eWeb v), .val (.int (everyOf v)), .val (eL R), .no, .no, .no, .no]) (fun u _ => u) (fun _ _ => True) () .never (ei_idx (n := (everyOf v + 1).toNat) (ev_add (i := everyOf v) (ev_n 3 rfl) ev_i rfl rfl) (by show D.int _ = D.int _; rw [Int.toNat_of_nonneg (by omega)]) (by omega) T.range) trivial (by repeat (first | exact le_nil | refine le_no ?_ | refine le_eq ?_)) (fun i m q hx hJ => ⟨trivial, _, _, (eg_n 5 nd), ?_⟩) (fun hJ => ?_)
    · have hm := idxs_mem.mp (mem_of_get hx)
      have hm0 := hm.1
      have hm1 : m ≤ everyOf v := by have := hm.2; omega
      have jm := jd m hm0 hm1
      have vm := vd m hm0 hm1
      have l30 : (lSet m).length ≤ 30 := Nat.le_trans (lSet_len m) (by decide)
      refine ss_set 6 nd (ev_call Ce (hr.mono (by decide)) (ea_cons (ev_n 5 rfl) ea_nil) ⟨m, rfl, rfl⟩) ?_
      generalize lSet m = net at jm vm l30 ⊢
      refine ss_set 7 nd (ev_call Ct (hr.mono (by decide)) (ea_cons (ev_n 2 rfl) (ea_cons (ev_n 6 rfl) ea_nil)) ⟨v, net, rfl, LO.S.W, LO.D, l30, rfl⟩) ?_
      have ea : isAtRest v net = decide (m ∈ R) := jm
      have ev : isRest (verdict v net) = decide (m ∈ R) := by
        rw [Bool.eq_iff_iff, decide_eq_true_iff, ← vm]
        cases verdict v net <;> simp [isRest]
      refine ss_when (t := false) (EvT.is (et_w (ew_or (et_not (et_v (ev_call Cs (hr.mono (by decide)) (ea_cons (ev_call Cj (hr.mono (by decide)) (ea_cons (ev_n 2 rfl) (ea_cons (ev_n 6 rfl) (ea_cons (ev_n 7 rfl) ea_nil))) ⟨v, net, toldOffers v net, rfl, LO.S.W, rfl⟩) (ea_cons (ev_c (ec_in (ns := R) (ev_n 5 rfl) (ev_n 4 rfl) rfl rfl)) ea_nil)) ⟨judge v net (toldOffers v net), decide (m ∈ R), rfl, rfl⟩) rfl)) (fun _ => (ew_or1 (et_c (ec_ne (c := decide (isAtRest v net = decide (m ∈ R))) (ev_call Ci (hr.mono (by decide)) (ea_cons (ev_n 2 rfl) (ea_cons (ev_n 6 rfl) ea_nil)) ⟨v, net, rfl, LO.S.W, LO.D, l30, rfl⟩) (ev_c (ec_in (ns := R) (ev_n 5 rfl) (ev_n 4 rfl) rfl rfl)) (by exact .bl _ _))))))) ?_) (fun ht => nomatch ht) (fun ht => ?_)
      · rw [jm, ea]; simp
      · refine ss_set 8 nd (ev_call Cv hr (ea_cons (ev_n 2 rfl) (ea_cons (ev_n 6 rfl) ea_nil)) ⟨v, net, rfl, LO.S.W, LO.D, l30, rfl⟩) ?_
        have eq := eqv_rest (verdict v net) (toldOffers v net) fun o h => verdict_rest h
        have shv := sh_vd (verdict v net)
        obtain ⟨t, f1, f2, f3⟩ := vd_fst (verdict v net)
        have sht : D.sh 50 (D.tup [.str "rest", eT (toldOffers v net)]) = true := sh_vd (.rest (toldOffers v net))
        refine ss_when (t := false) (EvT.is (et_w (ew_or (et_c (ec_ne (ev_c (ec_eqD hu (ev_n 8 rfl) (ev_tup (ea_cons ev_s (ea_cons (ev_n 7 rfl) ea_nil))) shv sht)) (ev_c (ec_in (ns := R) (ev_n 5 rfl) (ev_n 4 rfl) rfl rfl)) (.bl _ _))) (fun _ => (ew_or1 (et_c (ec_ne (ev_c (ec_eq (ev_ix (d := .str t) (ev_n 8 rfl) ev_i rfl f1 f3) ev_s (.str _ _))) (ev_c (ec_in (ns := R) (ev_n 5 rfl) (ev_n 4 rfl) rfl rfl)) (.bl _ _))))))) ?_) (fun ht => nomatch ht) (fun ht => ss_nil ?_)
        · show ((!decide (PyData.eqv (eVd (verdict v net)).pd (D.tup [.str "rest", eT (toldOffers v net)]).pd = decide (m ∈ R))) || (!decide (decide (t = "rest") = decide (m ∈ R)))) = false
          rw [eq, f2, ev]; simp
        · repeat (first | exact le_nil | refine le_no ?_ | refine le_eq ?_)
    · exact ss_ret ev_bl ⟨_, .inl rfl, rfl⟩
end
end N50
/-! text M5 -/
set_option maxHeartbeats 4000000
namespace N50
open PySem
/-! ### the law's choices hold together -/
structure PAll (n : Nat) (cs : List Con) (b s : List Int) (c : Pl) : Prop where
  pg : PG (fun x => x ∈ b) (fun x => x ∈ s) cs c
  ok : PlOk n c
  nn : NN c
theorem Wish.nodup {cs w : List Int} (h : Wish cs w) (n : cs.Nodup) : w.Nodup := by
  obtain ⟨l, h1, h2⟩ := h
  exact h2.nodup_iff.mpr (h1.nodup n)
theorem Wish.row {cs w : List Int} {n : Nat} (h : Wish cs w) (r : RowOk n cs) : RowOk n w := ⟨Nat.le_trans h.len r.1, fun x hx => r.2 x (h.mem hx)⟩
theorem Wish.isort {cs w : List Int} (h : Wish cs w) : Wish cs (N50.isort w) := by
  obtain ⟨l, h1, h2⟩ := h
  exact ⟨l, h1, (isort_perm w).trans h2⟩
theorem nthI_nn {xs : List Int} (h : ∀ x ∈ xs, 0 ≤ x) (k : Int) : 0 ≤ nthI xs k := by
  unfold nthI
  rw [List.getD_eq_getElem?_getD]
  cases q : xs[k.toNat]? with
  | none => exact Int.le_refl 0
  | some x => exact h x (List.mem_of_getElem? q)
theorem lRooms_nn (s ds : List Int) : 0 ≤ (lRooms s ds).1.1 ∧ 0 ≤ (lRooms s ds).1.2 := by
  have ab : ∀ c : Int, 0 ≤ abI c := fun c => by unfold abI; split <;> omega
  unfold lRooms lRoomsA lRoomsB lRooms1
  have h1 := fun k => nthI_nn (xs := [1, 1, 2, 3, 9, 0]) (by decide) k
  have h2 := fun k => nthI_nn (xs := [1, 1, 2, 9, 0]) (by decide) k
  split
  · unfold lRooms2
    split
    · exact ⟨ab _, h1 _⟩
    · exact ⟨h1 _, ab _⟩
  · exact ⟨h1 _, h2 _⟩
theorem evens_sub : ∀ cs : List Int, (evens cs).Sublist cs
  | [] => .slnil
  | [x] => List.Sublist.refl _
  | x :: y :: r => ((evens_sub r).cons y).cons_cons x
theorem grp_fold : ∀ (ls : List (List Int)) (q : List (List Int × Int) × List Int), ∀ g ∈ (ls.foldl lGrpStep q).1, g ∈ q.1 ∨ g.1 ∈ ls
  | [], q, g, h => .inl h
  | l :: ls, q, g, h => by
    rw [List.foldl_cons] at h
    rcases grp_fold ls _ g h with z | z
    · unfold lGrpStep at z
      split at z
      · exact .inl z
      · split at z
        · rcases List.mem_append.mp z with z | z
          · exact .inl z
          · rw [List.mem_singleton.mp z]; exact .inr List.mem_cons_self
        · exact .inl z
    · exact .inr (List.mem_cons_of_mem _ z)
theorem lGroups_ok {cs : List Int} (nd : cs.Nodup) (hl : cs.length ≤ 5) (ds : List Int) : (∀ g ∈ (lGroups ds cs).1, g.1.Nodup) ∧ Lam (lGroups ds cs).1 := by
  unfold lGroups lGroups1 lGroups2
  have hc := tk_lt (many := (cs.length : Int) + 1) (by omega) ds
  generalize (tk ((cs.length : Int) + 1) ds).1 = cut at hc
  generalize (tk 3 (tk ((cs.length : Int) + 1) ds).2) = k
  obtain ⟨n, rfl⟩ := Int.eq_ofNat_of_zero_le hc.1
  have e2 : upTo cs (n : Int) = cs.take n := by rw [upTo_nn (by omega)]; rfl
  have h1 : (lHalf cs n k.1).Sublist cs ∧ ((∀ x ∈ lHalf cs n k.1, x ∈ cs.take n) ∨ ∀ x ∈ lHalf cs n k.1, x ∉ cs.take n) := by
    unfold lHalf
    split
    · rw [upTo_nn (by omega)]
      refine ⟨List.take_sublist .., .inl fun x hx => ?_⟩
      exact (List.take_subset_take_left cs (by omega)) hx
    · split
      · rw [Int.toNat_natCast]
        refine ⟨List.drop_sublist .., .inr fun x hx hy => ?_⟩
        have := nd
        rw [← List.take_append_drop n cs] at this
        exact (List.nodup_append.mp this).2.2 x hy x hx rfl
      · rw [pick2 cs n hl (by omega)]
        exact ⟨(evens_sub _).trans (List.take_sublist ..), .inl fun x hx => (evens_sub _).subset hx⟩
  rw [e2]
  have mem : ∀ g ∈ ([lHalf cs n k.1, cs.take n, cs].foldl lGrpStep ([], k.2)).1, g.1 = lHalf cs n k.1 ∨ g.1 = cs.take n ∨ g.1 = cs := fun g hg => by
    rcases grp_fold _ _ g hg with z | z
    · simp at z
    · simpa using z
  have tk : ∀ x ∈ cs.take n, x ∈ cs := fun x hx => List.mem_of_mem_take hx
  have hf : ∀ x ∈ lHalf cs n k.1, x ∈ cs := fun x hx => h1.1.subset hx
  refine ⟨fun g hg => ?_, fun g hg h hh => ?_⟩
  · rcases mem g hg with z | z | z <;> rw [z]
    · exact h1.1.nodup nd
    · exact (List.take_sublist ..).nodup nd
    · exact nd
  · rcases mem g hg with z | z | z <;> rcases mem h hh with y | y | y <;> rw [z, y]
    · exact .inl fun _ h => h
    · rcases h1.2 with q | q
      · exact .inl q
      · exact .inr (.inr q)
    · exact .inl hf
    · rcases h1.2 with q | q
      · exact .inr (.inl q)
      · exact .inr (.inr fun x hx hy => q x hy hx)
    · exact .inl fun _ h => h
    · exact .inl tk
    · exact .inr (.inl hf)
    · exact .inr (.inl tk)
    · exact .inl fun _ h => h
theorem rows_len (c : Pl) : ∀ (offs : List (List Int)) (acc : List (Int × Int × List Int)), (offs.foldl (lRowStep c) acc).length ≤ acc.length + offs.length
  | [], acc => by simp
  | o :: offs, acc => by
    rw [List.foldl_cons]
    refine Nat.le_trans (rows_len c offs _) ?_
    have : (lRowStep c acc o).length ≤ acc.length + 1 := by unfold lRowStep; split <;> simp
    rw [List.length_cons]; omega
theorem lTable_ok {n : Nat} {b s : List Int} (nb : b.Nodup) (ns : s.Nodup) (dj : ∀ c ∈ b, c ∉ s) {c : Pl} (h : MS b s c) (hl : b.length + s.length < 6) (rb : RowOk n b) (rs : RowOk n s) : PlOk n (.table (lTable c)) := by
  refine ⟨?_, fun r hr => ?_⟩
  · unfold lTable
    rw [List.length_map, (List.mergeSort_perm ..).length_eq]
    refine Nat.le_trans (rows_len ..) ?_
    unfold lSubsets
    rw [(List.mergeSort_perm ..).length_eq, (subs_len _).1, (isort_perm _).length_eq, ms_sides h, List.length_append]
    have : 2 ^ (b.length + s.length) ≤ 2 ^ 5 := Nat.pow_le_pow_right (by omega) (by omega)
    simp only [List.length_nil]; omega
  · unfold lTable at hr
    obtain ⟨t, ht, rfl⟩ := List.mem_map.mp hr
    rw [(List.mergeSort_perm ..).mem_iff, rows_mem] at ht
    rcases ht with ht | ⟨off, _, _, rfl⟩
    · simp at ht
    · show RowOk n (lChooseP [] c off)
      rw [ms_cs [] h]
      have g := (ms_pg [] nb ns dj h).1
      have nd : (isort (chosenP [] c off)).Nodup := isort_nodup (g.nd off)
      have sub : isort (chosenP [] c off) ⊆ b ++ s := fun x hx => List.mem_append.mpr (g.sub off x (isort_mem.mp hx)).2
      refine ⟨?_, fun x hx => ?_⟩
      · have := List.Nodup.length_le_of_subset nd sub
        rw [List.length_append] at this; omega
      · rcases List.mem_append.mp (sub hx) with q | q
        · exact rb.2 x q
        · exact rs.2 x q
theorem lPlain_all {n : Nat} {b s : List Int} (cs : List Con) (nb : b.Nodup) (ns : s.Nodup) (dj : ∀ c ∈ b, c ∉ s) (rb : RowOk n b) (rs : RowOk n s) (lb : b.length ≤ 5) (ls : s.length ≤ 5) (s0 ds : List Int) : PAll n cs b s (lPlain s0 ds b s).1 := by
  unfold lPlain lPlain0 lPlain1 lPlain2 lPlain3
  have W0 : Wish b (lMixed (tk 4 ds).2 b (nthI [8, 8, 7, 5] (tk 4 ds).1)).2 := lMixed_sub ..
  generalize lMixed (tk 4 ds).2 b (nthI [8, 8, 7, 5] (tk 4 ds).1) = m0 at W0
  have W1 : Wish s (lMixed m0.1 s (nthI [8, 8, 7, 5] (tk 4 ds).1)).2 := lMixed_sub ..
  generalize lMixed m0.1 s (nthI [8, 8, 7, 5] (tk 4 ds).1) = m1 at W1
  have R := lRooms_nn s0 m1.1
  generalize lRooms s0 m1.1 = r at R
  generalize tk 8 r.2 = k
  generalize m0.2 = w0 at *
  generalize m1.2 = w1 at *
  have n0 := W0.nodup nb
  have n1 := W1.nodup ns
  have d01 : ∀ c ∈ w0, c ∉ w1 := fun c h1 h2 => dj c (W0.mem h1) (W1.mem h2)
  have wide : ∀ c, PG (fun x => x ∈ w0) (fun x => x ∈ w1) cs c → PG (fun x => x ∈ b) (fun x => x ∈ s) cs c := fun c h => h.wide (fun _ h => W0.mem h) (fun _ h => W1.mem h) dj
  unfold lKind
  split
  · have g0 := lGroups_ok nb lb k.2
    have g1 := lGroups_ok ns ls (lGroups k.2 b).2
    exact ⟨wide _ (pg_caps cs n0 n1 d01 g0.2 g1.2 g0.1 g1.1), ⟨W0.row rb, W1.row rs, Nat.le_trans (lGroups_len ..).2 (by decide), Nat.le_trans (lGroups_len ..).2 (by decide)⟩, trivial⟩
  · split
    · have i0 := W0.isort
      have i1 := W1.isort
      exact ⟨(pg_trader cs (i0.nodup nb) (i1.nodup ns) (fun c h1 h2 => dj c (i0.mem h1) (i1.mem h2)) R.1 _).wide (fun _ h => i0.mem h) (fun _ h => i1.mem h) dj, ⟨i0.row rb, i1.row rs⟩, R.1⟩
    · have hms : MS w0 w1 (if k.1 < 5 ∨ b = [] ∨ s = [] then .sides r.1.1 w0 r.1.2 w1 else .maker r.1.1 w0 w1) := by
        split
        · exact .sides R.1 R.2
        · exact .maker R.1
      generalize (if k.1 < 5 ∨ b = [] ∨ s = [] then Pl.sides r.1.1 w0 r.1.2 w1 else Pl.maker r.1.1 w0 w1) = ch at hms
      unfold lLast
      dsimp only
      split
      · rename_i hx
        exact ⟨wide _ (pg_table cs n0 n1 d01 hms), lTable_ok n0 n1 d01 hms (by omega) (W0.row rb) (W1.row rs), trivial⟩
      · refine ⟨wide _ (ms_pg cs n0 n1 d01 hms), ?_, ?_⟩
        · cases hms <;> exact ⟨W0.row rb, W1.row rs⟩
        · cases hms <;> exact trivial
/-! ### split choices, wild tables -/
structure CAll (n : Nat) (cs : List Con) (b s : List Int) (c : Ch) : Prop where
  cg : CG (fun x => x ∈ b) (fun x => x ∈ s) cs c
  ok : ChOk n c
  nn : NNc c
theorem PAll.ch {n : Nat} {cs : List Con} {b s : List Int} {c : Pl} (h : PAll n cs b s c) : CAll n cs b s (.pl c) := ⟨h.pg, h.ok, h.nn⟩
theorem nd_inj {l : List Int} (n : l.Nodup) {i j : Nat} (hi : i < l.length) (hj : j < l.length) (e : l[i] = l[j]) : i = j := by
  have := List.pairwise_iff_getElem.mp n
  rcases Nat.lt_trichotomy i j with h | h | h
  · exact (this i j hi hj h e).elim
  · exact h
  · exact (this j i hj hi h e.symm).elim
theorem own_one {all places : List Int} (nd : all.Nodup) (hl : places.length = all.length) {k k' c : Int} (h1 : c ∈ lOwnK all places k) (h2 : c ∈ lOwnK all places k') : k = k' := by
  unfold lOwnK at h1 h2
  obtain ⟨a, a1, a2⟩ := List.mem_map.mp h1
  obtain ⟨d, d1, d2⟩ := List.mem_map.mp h2
  obtain ⟨a3, a4⟩ := List.mem_filter.mp a1
  obtain ⟨d3, d4⟩ := List.mem_filter.mp d1
  have a5 := idxs_mem.mp a3
  have d5 := idxs_mem.mp d3
  have e : a = d := by
    rw [← d2] at a2
    unfold nthI at a2
    rw [List.getD_eq_getElem?_getD, List.getD_eq_getElem?_getD, List.getElem?_eq_getElem (by omega), List.getElem?_eq_getElem (by omega)] at a2
    have := nd_inj nd _ _ a2
    omega
  rw [e] at a4
  exact (of_decide_eq_true a4).symm.trans (of_decide_eq_true d4)
theorem split_fold {n : Nat} {b s places : List Int} (cs : List Con) (nb : b.Nodup) (ns : s.Nodup) (dj : ∀ c ∈ b, c ∉ s) (rb : RowOk n b) (rs : RowOk n s) (lb : b.length ≤ 5) (ls : s.length ≤ 5) (hl : places.length = (b ++ s).length) (s0 : List Int) :
    ∀ (ks : List Int) (q : List Pl × List Int) (bq sq : Int → Prop), ks.Nodup → GC bq sq (fun Y => q.1.flatMap fun p => chosenP cs p Y) → (∀ p ∈ q.1, (∀ Y, lChooseP cs p Y = isort (chosenP cs p Y)) ∧ PlOk n p ∧ NN p) → (∀ c, bq c → c ∈ b) → (∀ c, sq c → c ∈ s) → (∀ c, bq c ∨ sq c → ∀ k ∈ ks, c ∉ lOwnK (b ++ s) places k) →
      ∃ bq' sq' : Int → Prop, GC bq' sq' (fun Y => (ks.foldl (lPartStep s0 b s places) q).1.flatMap fun p => chosenP cs p Y) ∧ (∀ p ∈ (ks.foldl (lPartStep s0 b s places) q).1, (∀ Y, lChooseP cs p Y = isort (chosenP cs p Y)) ∧ PlOk n p ∧ NN p) ∧ (∀ c, bq' c → c ∈ b) ∧ (∀ c, sq' c → c ∈ s)
  | [], q, bq, sq, _, g, h, h1, h2, _ => ⟨bq, sq, g, h, h1, h2⟩
  | k :: ks, q, bq, sq, nk, g, h, h1, h2, h3 => by
    obtain ⟨k1, k2⟩ := List.nodup_cons.mp nk
    rw [List.foldl_cons]
    let b' := b.filter fun c => decide (c ∈ lOwnK (b ++ s) places k)
    let s' := s.filter fun c => decide (c ∈ lOwnK (b ++ s) places k)
    have mb : ∀ c, c ∈ b' ↔ c ∈ b ∧ c ∈ lOwnK (b ++ s) places k := fun c => by simp [b']
    have ms : ∀ c, c ∈ s' ↔ c ∈ s ∧ c ∈ lOwnK (b ++ s) places k := fun c => by simp [s']
    have nd : (b ++ s).Nodup := List.nodup_append.mpr ⟨nb, ns, fun x hx y hy z => dj x hx (by rw [z]; exact hy)⟩
    have P : PAll n cs b' s' (lPlain s0 q.2 b' s').1 := lPlain_all cs (nb.filter _) (ns.filter _) (fun c hb hs => dj c ((mb c).mp hb).1 ((ms c).mp hs).1) ⟨Nat.le_trans (List.length_filter_le ..) rb.1, fun x hx => rb.2 x ((mb x).mp hx).1⟩ ⟨Nat.le_trans (List.length_filter_le ..) rs.1, fun x hx => rs.2 x ((ms x).mp hx).1⟩ (Nat.le_trans (List.length_filter_le ..) lb) (Nat.le_trans (List.length_filter_le ..) ls) s0 q.2
    have e : lPartStep s0 b s places q k = (q.1 ++ [(lPlain s0 q.2 b' s').1], (lPlain s0 q.2 b' s').2) := rfl
    rw [e]
    generalize lPlain s0 q.2 b' s' = r at P
    have gg := g.both P.pg.1 (fun c z1 z2 => h3 c z1 k List.mem_cons_self (by
      rcases z2 with z | z
      · exact ((mb c).mp z).2
      · exact ((ms c).mp z).2)) (fun c z y => dj c (h1 c z) (h2 c y)) (fun c z y => dj c ((mb c).mp z).1 ((ms c).mp y).1)
    refine split_fold cs nb ns dj rb rs lb ls hl s0 ks _ (fun c => bq c ∨ c ∈ b') (fun c => sq c ∨ c ∈ s') k2 ?_ ?_ ?_ ?_ ?_
    · refine gg.same (fun Y c => ?_) fun Y => ?_
      · dsimp only; rw [List.flatMap_append]; simp
      · have := gg.nd Y
        dsimp only at this ⊢
        rw [List.flatMap_append]; simpa using this
    · intro p hp
      rcases List.mem_append.mp hp with z | z
      · exact h p z
      · rw [List.mem_singleton.mp z]; exact ⟨P.pg.2, P.ok, P.nn⟩
    · rintro c (z | z)
      · exact h1 c z
      · exact ((mb c).mp z).1
    · rintro c (z | z)
      · exact h2 c z
      · exact ((ms c).mp z).1
    · intro c hc k' hk' z
      have key : c ∈ lOwnK (b ++ s) places k → False := fun y => by
        have := own_one nd hl y z
        rw [this] at k1; exact k1 hk'
      rcases hc with (y | y) | (y | y)
      · exact h3 c (.inl y) k' (List.mem_cons_of_mem _ hk') z
      · exact key ((mb c).mp y).2
      · exact h3 c (.inr y) k' (List.mem_cons_of_mem _ hk') z
      · exact key ((ms c).mp y).2
theorem flat_isort {cs : List Con} {ps : List Pl} {Y : List Int} (h : ∀ p ∈ ps, lChooseP cs p Y = isort (chosenP cs p Y)) : (ps.flatMap fun p => lChooseP cs p Y).Perm (ps.flatMap fun p => chosenP cs p Y) := by
  induction ps with
  | nil => simp
  | cons p ps ih =>
    rw [List.flatMap_cons, List.flatMap_cons]
    refine List.Perm.append ?_ (ih fun q hq => h q (List.mem_cons_of_mem _ hq))
    rw [h p List.mem_cons_self]
    exact isort_perm _
theorem idxs_nodup (n : Nat) : (idxs n).Nodup := by
  unfold idxs
  have := (List.nodup_range (n := n))
  exact List.pairwise_map.mpr (this.imp fun h z => h (by omega))
theorem lPick_all {n : Nat} {b s : List Int} (cs : List Con) (nb : b.Nodup) (ns : s.Nodup) (dj : ∀ c ∈ b, c ∉ s) (rb : RowOk n b) (rs : RowOk n s) (lb : b.length ≤ 5) (ls : s.length ≤ 5) (s0 ds : List Int) : CAll n cs b s (lPick s0 ds b s).1 := by
  unfold lPick lPick1
  split
  · exact (lPlain_all cs nb ns dj rb rs lb ls s0 _).ch
  · unfold lPick2
    have h6 := tk_lt (many := 6) (by decide) (tk 8 ds).2
    have hm := nth_many h6
    generalize nthI [2, 3, 2, 1, 5, 9] (tk 6 (tk 8 ds).2).1 = many at hm
    generalize (tk 6 (tk 8 ds).2).2 = d
    have fin : ∀ ps : List Pl, ps.length ≤ 40 → (∃ bq sq : Int → Prop, GC bq sq (fun Y => ps.flatMap fun p => chosenP cs p Y) ∧ (∀ p ∈ ps, (∀ Y, lChooseP cs p Y = isort (chosenP cs p Y)) ∧ PlOk n p ∧ NN p) ∧ (∀ c, bq c → c ∈ b) ∧ (∀ c, sq c → c ∈ s)) → CAll n cs b s (.split ps) := fun ps hl ⟨bq, sq, g, h, h1, h2⟩ =>
      ⟨⟨g.wide h1 h2 dj, fun Y => isort_congr (flat_isort fun p hp => (h p hp).1 Y)⟩, ⟨hl, fun p hp => (h p hp).2.1⟩, fun p hp => (h p hp).2.2⟩
    dsimp only
    unfold lSplit1
    split
    · exact fin [] (by decide) ⟨fun _ => False, fun _ => False, GC.nil, by simp, fun _ h => h.elim, fun _ h => h.elim⟩
    · unfold lSplit2
      refine fin _ ?_ ?_
      · rw [(lPart_le ..).2, idxs_len]
        simp only [List.length_nil]; omega
      · obtain ⟨ps, p1, _, p3, _⟩ := lPlaces_run many hm.1 (b ++ s) [] d
        unfold lPlacesD
        rw [p1]
        exact split_fold cs nb ns dj rb rs lb ls (by simpa using p3) s0 _ _ (fun _ => False) (fun _ => False) (idxs_nodup _) GC.nil (by simp) (fun _ h => h.elim) (fun _ h => h.elim) (fun _ h => by rcases h with h | h <;> exact h.elim)
end N50
/-! text M6 -/
set_option maxHeartbeats 4000000
namespace N50
open PySem
/-! ### the law's webs -/
structure WebOk (w : Web) : Prop where
  c5 : w.cs.length ≤ 5
  h5 : w.hs.length ≤ 12
  se : ∀ c ∈ w.cs, (0 ≤ c.s ∧ c.s < (w.hs.length : Int)) ∧ (0 ≤ c.b ∧ c.b < (w.hs.length : Int))
  dn : Down w
  al : ∀ (i : Nat) (q : Str × Ch), w.hs[i]? = some q → CAll w.cs.length w.cs (cBuys w.cs i) (cSells w.cs i) q.2
theorem idxs_lt (n : Nat) : (idxs n).Pairwise (· < ·) := by
  unfold idxs
  exact List.pairwise_map.mpr ((List.pairwise_lt_range (n := n)).imp fun h => by omega)
theorem mem_cBuys {cs : List Con} {h c : Int} : c ∈ cBuys cs h ↔ (0 ≤ c ∧ c < (cs.length : Int)) ∧ buyOf ⟨[], cs⟩ c = h := by unfold cBuys; rw [List.mem_filter, idxs_mem, decide_eq_true_iff]
theorem mem_cSells {cs : List Con} {h c : Int} : c ∈ cSells cs h ↔ (0 ≤ c ∧ c < (cs.length : Int)) ∧ selOf ⟨[], cs⟩ c = h := by unfold cSells; rw [List.mem_filter, idxs_mem, decide_eq_true_iff]
theorem con_at {cs : List Con} {c : Int} (h : 0 ≤ c ∧ c < (cs.length : Int)) : ∃ k ∈ cs, cs[c.toNat]? = some k ∧ selOf ⟨[], cs⟩ c = k.s ∧ buyOf ⟨[], cs⟩ c = k.b := by
  obtain ⟨n, rfl⟩ := Int.eq_ofNat_of_zero_le h.1
  have hn : n < cs.length := by omega
  have e : cs[n]? = some cs[n] := List.getElem?_eq_getElem _
  refine ⟨cs[n], List.getElem_mem hn, by rw [Int.toNat_natCast]; exact e, ?_, ?_⟩
  · unfold selOf; rw [Int.toNat_natCast, e]
  · unfold buyOf; rw [Int.toNat_natCast, e]
theorem down_dj {cs : List Con} (dn : Down ⟨[], cs⟩) (h : Int) : ∀ c ∈ cBuys cs h, c ∉ cSells cs h := fun c h1 h2 => by
  obtain ⟨a1, a2⟩ := mem_cBuys.mp h1
  obtain ⟨b1, b2⟩ := mem_cSells.mp h2
  obtain ⟨k, k1, k0, k2, k3⟩ := con_at a1
  obtain ⟨rk, hr⟩ := dn
  have := hr k k1
  rw [← k2, ← k3, a2, b2] at this
  omega
/-! #### houses -/
theorem house_fold (s : List Int) (cs : List Con) : ∀ (ks : List Int) (q : List (Str × Ch) × List Int), ∃ es : List (Str × Ch), (ks.foldl (lHouseStep s cs) q).1 = q.1 ++ es ∧ es.length = ks.length ∧ ∀ (i : Nat) (e : Str × Ch), es[i]? = some e → ∃ k d, ks[i]? = some k ∧ e.2 = (lPick s d (cBuys cs k) (cSells cs k)).1
  | [], q => ⟨[], by simp, rfl, fun i e h => by simp at h⟩
  | k :: ks, q => by
    obtain ⟨es, h1, h2, h3⟩ := house_fold s cs ks (lHouseStep s cs q k)
    rw [List.foldl_cons, h1]
    refine ⟨(lHouse1 s cs k (tk 7 q.2)).1 :: es, by unfold lHouseStep; simp, by simp [h2], fun i e h => ?_⟩
    cases i with
    | zero =>
      have : (lHouse1 s cs k (tk 7 q.2)).1 = e := by simpa using h
      refine ⟨k, (tk 3 (tk 7 q.2).2).2, rfl, ?_⟩
      rw [← this]; rfl
    | succ i => exact h3 i e (by simpa using h)
/-! #### contracts -/
theorem lFS_ne {count k shape a g : Int} (hc : 2 ≤ count) (ha : 0 ≤ a ∧ a < count) (hg : 0 ≤ g ∧ g < count - 1) : (lFS count k shape (a, (a + 1 + g) % count)).1 ≠ (lFS count k shape (a, (a + 1 + g) % count)).2 := by
  unfold lFS
  split
  · dsimp only; omega
  · split
    · dsimp only; omega
    · dsimp only
      intro h
      by_cases q : a + 1 + g < count
      · rw [Int.emod_eq_of_lt (by omega) q] at h; omega
      · have e : (a + 1 + g) % count = a + 1 + g - count := by
          rw [← Int.sub_emod_right, Int.emod_eq_of_lt (by omega) (by omega)]
        rw [e] at h; omega
theorem pair_fold (s order : List Int) (shape : Int) (hc : 2 ≤ order.length) : ∀ (ks : List Int) (q : List Con × List Int), (∀ k ∈ ks, 0 ≤ k) → ∀ c ∈ (ks.foldl (lPairStep s order shape) q).1, c ∈ q.1 ∨ ∃ i j : Int, 0 ≤ i ∧ i < j ∧ j < (order.length : Int) ∧ c.s = nthI order i ∧ c.b = nthI order j
  | [], q, _, c, h => .inl h
  | k :: ks, q, hk, c, h => by
    rw [List.foldl_cons] at h
    rcases pair_fold s order shape hc ks _ (fun x hx => hk x (List.mem_cons_of_mem _ hx)) c h with z | z
    · unfold lPairStep at z
      rcases List.mem_append.mp z with z | z
      · exact .inl z
      · right
        rw [List.mem_singleton.mp z]
        unfold lPair1 lPair2 lPair3 lPair4
        have ha := tk_lt (many := (order.length : Int)) (by omega) q.2
        generalize tk order.length q.2 = f at ha
        have hg := tk_lt (many := (order.length : Int) - 1) (by omega) f.2
        generalize tk ((order.length : Int) - 1) f.2 = g at hg
        have b := lFS_b (count := order.length) (k := k) (shape := shape) (by omega) (hk k List.mem_cons_self) ha hg
        have n := lFS_ne (count := order.length) (k := k) (shape := shape) (by omega) ha hg
        generalize lFS order.length k shape (f.1, (f.1 + 1 + g.1) % (order.length : Int)) = fs at b n
        refine ⟨mn2 fs.1 fs.2, mx2 fs.1 fs.2, (mn2_b b.1 b.2).1, ?_, (mx2_b b.1 b.2).2, rfl, rfl⟩
        unfold mn2 mx2
        split <;> split <;> omega
    · exact .inr z
theorem idx_nth {l : List Int} (nd : l.Nodup) {i : Int} (h : 0 ≤ i ∧ i < (l.length : Int)) : ((l.idxOf (nthI l i) : Nat) : Int) = i := by
  obtain ⟨n, rfl⟩ := Int.eq_ofNat_of_zero_le h.1
  have hm := nth_mem h
  have hi := List.idxOf_lt_length_of_mem hm
  have e : l[l.idxOf (nthI l n)] = nthI l n := List.getElem_idxOf hi
  have e2 : nthI l n = l[n]'(by omega) := by
    unfold nthI
    rw [List.getD_eq_getElem?_getD, Int.toNat_natCast, List.getElem?_eq_getElem (by omega)]; rfl
  have := nd_inj nd hi (by omega) (e.trans e2)
  omega
theorem lSteady_ok (s ds : List Int) : WebOk (lSteady s ds 5 5).1 := by
  have hn := lSteady_n s ds
  unfold lSteady lSteady1 lSteady2 lSteady3 lSteady4 at hn ⊢
  have h4 := tk_lt (many := 5 - 1) (by decide) ds
  have hN : (2 + (tk (5 - 1) ds).1).toNat = (2 + (tk (5 - 1) ds).1).toNat := rfl
  generalize hk : (2 + (tk (5 - 1) ds).1).toNat = n at *
  have hn2 : 2 ≤ n := by omega
  have po := lOrder_perm (tk (5 - 1) ds).2 n
  generalize lOrder (tk (5 - 1) ds).2 n = o at po hn
  have pl := po.length_eq
  rw [idxs_len] at pl
  have pn : o.1.Nodup := po.nodup_iff.mpr (idxs_nodup n)
  have pf := fun ks q hks => pair_fold s o.1 (tk 4 o.2).1 (by omega) ks q hks
  have hcs : ∀ c ∈ (lPairs s (tk 4 o.2).2 o.1 5 (tk 4 o.2).1).1, ∃ i j : Int, 0 ≤ i ∧ i < j ∧ j < (o.1.length : Int) ∧ c.s = nthI o.1 i ∧ c.b = nthI o.1 j := fun c hc => by
    unfold lPairs at hc
    rcases pf _ _ (fun k hk => (idxs_mem.mp hk).1) c hc with z | z
    · simp at z
    · exact z
  generalize lPairs s (tk 4 o.2).2 o.1 5 (tk 4 o.2).1 = p at hcs hn
  obtain ⟨es, e1, e2, e3⟩ := house_fold s p.1 (idxs n) ([], p.2)
  rw [List.nil_append] at e1
  dsimp only at hn ⊢
  rw [e1] at hn ⊢
  rw [idxs_len] at e2
  have rng : ∀ i : Int, 0 ≤ i → i < (o.1.length : Int) → 0 ≤ nthI o.1 i ∧ nthI o.1 i < (n : Int) := fun i h1 h2 => idxs_mem.mp (po.mem_iff.mp (nth_mem ⟨h1, h2⟩))
  have dn : ∃ rk : Int → Nat, ∀ c ∈ p.1, rk c.s < rk c.b := ⟨fun h => o.1.idxOf h, fun c hc => by
    obtain ⟨i, j, h1, h2, h3, h5, h6⟩ := hcs c hc
    have a := idx_nth pn (i := i) ⟨h1, by omega⟩
    have b := idx_nth pn (i := j) ⟨by omega, h3⟩
    dsimp only
    rw [h5, h6]; omega⟩
  refine ⟨hn.1, by dsimp only; omega, fun c hc => ?_, dn, fun i q hq => ?_⟩
  · obtain ⟨i, j, h1, h2, h3, h5, h6⟩ := hcs c hc
    rw [h5, h6]
    dsimp only
    rw [e2]
    exact ⟨rng i h1 (by omega), rng j (by omega) h3⟩
  · obtain ⟨k, d, k1, k2⟩ := e3 i q hq
    have : k = ((i : Nat) : Int) := (idxs_get k1).1
    rw [this] at k2
    rw [k2]
    have cr := cRow p.1 hn.1 i
    have nb : (cBuys p.1 i).Nodup := (idxs_nodup _).filter _
    have ns : (cSells p.1 i).Nodup := (idxs_nodup _).filter _
    exact lPick_all p.1 nb ns (down_dj dn i) cr.2.2.1 cr.2.2.2 cr.1 cr.2.1 s d
/-! #### the wild tables -/
theorem row_ok {n : Nat} {b s r : List Int} (rb : RowOk n b) (rs : RowOk n s) (h : ∀ x ∈ r, x ∈ b ∨ x ∈ s) (hl : r.length ≤ 3) : RowOk n r := ⟨by omega, fun x hx => by
  rcases h x hx with q | q
  · exact rb.2 x q
  · exact rs.2 x q⟩
theorem pall_t1 {n : Nat} {b s : List Int} (cs : List Con) (dj : ∀ c ∈ b, c ∉ s) (rb : RowOk n b) (rs : RowOk n s) {x y z : Int} {r : List Int} (hr : ∀ u, u ∈ r ↔ u = y ∨ u = z) (nr : r.Nodup) (pr : r.Pairwise (· ≤ ·)) (hl : r.length ≤ 3) (ne : x ≠ y ∧ x ≠ z) (h : (x ∈ b ∧ y ∈ b ∧ z ∈ b) ∨ (x ∈ s ∧ y ∈ s ∧ z ∈ s)) : PAll n cs b s (.table [[x], r, [y], [z]]) := by
  have hm : ∀ u, u = x ∨ u = y ∨ u = z → u ∈ b ∨ u ∈ s := fun u hu => by
    rcases h with ⟨h1, h2, h3⟩ | ⟨h1, h2, h3⟩
    · left; rcases hu with q | q | q <;> rw [q] <;> assumption
    · right; rcases hu with q | q | q <;> rw [q] <;> assumption
  refine ⟨⟨?_, fun Y => chosen_pw (by simp [pr]) Y⟩, ⟨by simp, fun q hq => ?_⟩, trivial⟩
  · have S := sd_t1 hr nr ne
    show GC _ _ (chosenRow [[x], r, [y], [z]])
    rcases h with ⟨h1, h2, h3⟩ | ⟨h1, h2, h3⟩
    · have g := GC.sides S (sd_nil (p := fun _ => False)) (fun _ _ h => h)
      refine (g.same (F' := chosenRow [[x], r, [y], [z]]) (fun Y c => by simp) S.nd).wide (fun c hc => ?_) (fun c hc => hc.elim) dj
      rcases hc with q | q | q <;> rw [q] <;> assumption
    · have g := GC.sides (sd_nil (p := fun _ => False)) S (fun _ h _ => h)
      refine (g.same (F' := chosenRow [[x], r, [y], [z]]) (fun Y c => by simp) S.nd).wide (fun c hc => hc.elim) (fun c hc => ?_) dj
      rcases hc with q | q | q <;> rw [q] <;> assumption
  · simp only [List.mem_cons, List.not_mem_nil, or_false] at hq
    rcases hq with q | q | q | q <;> rw [q]
    · exact row_ok rb rs (fun u hu => hm u (.inl (List.mem_singleton.mp hu))) (by simp)
    · exact row_ok rb rs (fun u hu => hm u (.inr ((hr u).mp hu))) hl
    · exact row_ok rb rs (fun u hu => hm u (.inr (.inl (List.mem_singleton.mp hu)))) (by simp)
    · exact row_ok rb rs (fun u hu => hm u (.inr (.inr (List.mem_singleton.mp hu)))) (by simp)
theorem pall_t2 {n : Nat} {b s : List Int} (cs : List Con) (dj : ∀ c ∈ b, c ∉ s) (rb : RowOk n b) (rs : RowOk n s) {x y z : Int} {r1 r2 r3 : List Int} (e1 : r1.Perm [x, y, z]) (e2 : r2.Perm [x, y]) (e3 : r3.Perm [x, z]) (p1 : r1.Pairwise (· ≤ ·)) (p2 : r2.Pairwise (· ≤ ·)) (p3 : r3.Pairwise (· ≤ ·)) (ne : x ≠ y ∧ x ≠ z ∧ y ≠ z) (h : (x ∈ b ∧ y ∈ s ∧ z ∈ s) ∨ (x ∈ s ∧ y ∈ b ∧ z ∈ b)) : PAll n cs b s (.table [r1, r2, r3]) := by
  have m1 : ∀ u, u ∈ r1 ↔ u = x ∨ u = y ∨ u = z := fun u => by rw [e1.mem_iff]; simp
  have m2 : ∀ u, u ∈ r2 ↔ u = x ∨ u = y := fun u => by rw [e2.mem_iff]; simp
  have m3 : ∀ u, u ∈ r3 ↔ u = x ∨ u = z := fun u => by rw [e3.mem_iff]; simp
  have g := gc_t2 m1 m2 m3 (e1.nodup_iff.mpr (by simp [ne])) (e2.nodup_iff.mpr (by simp [ne])) (e3.nodup_iff.mpr (by simp [ne])) ⟨ne.1, ne.2.1⟩
  have hm : ∀ u, u = x ∨ u = y ∨ u = z → u ∈ b ∨ u ∈ s := fun u hu => by
    rcases h with ⟨h1, h2, h3⟩ | ⟨h1, h2, h3⟩
    · rcases hu with q | q | q <;> rw [q] <;> first | exact .inl (by assumption) | exact .inr (by assumption)
    · rcases hu with q | q | q <;> rw [q] <;> first | exact .inl (by assumption) | exact .inr (by assumption)
  refine ⟨⟨?_, fun Y => chosen_pw (by simp [p1, p2, p3]) Y⟩, ⟨by simp, fun q hq => ?_⟩, trivial⟩
  · show GC _ _ (chosenRow [r1, r2, r3])
    rcases h with ⟨h1, h2, h3⟩ | ⟨h1, h2, h3⟩
    · exact g.wide (fun c hc => by rw [hc]; exact h1) (fun c hc => by rcases hc with q | q <;> rw [q] <;> assumption) dj
    · exact g.swap.wide (fun c hc => by rcases hc with q | q <;> rw [q] <;> assumption) (fun c hc => by rw [hc]; exact h1) dj
  · simp only [List.mem_cons, List.not_mem_nil, or_false] at hq
    rcases hq with q | q | q <;> rw [q]
    · exact row_ok rb rs (fun u hu => hm u ((m1 u).mp hu)) (by rw [e1.length_eq]; simp)
    · exact row_ok rb rs (fun u hu => hm u (by rcases (m2 u).mp hu with q | q <;> simp [q])) (by rw [e2.length_eq]; simp)
    · exact row_ok rb rs (fun u hu => hm u (by rcases (m3 u).mp hu with q | q <;> simp [q])) (by rw [e3.length_eq]; simp)
theorem lWild_all {n : Nat} {b s : List Int} (cs : List Con) (lb : b.Pairwise (· < ·)) (ls : s.Pairwise (· < ·)) (dj : ∀ c ∈ b, c ∉ s) (rb : RowOk n b) (rs : RowOk n s) (hl : 2 < b.length + s.length) : PAll n cs b s (.table (lWild b s)) := by
  unfold lWild
  split
  · rename_i h0
    have key : ∀ own : List Int, own.Pairwise (· < ·) → 2 < own.length → ((∀ x ∈ own, x ∈ b) ∨ ∀ x ∈ own, x ∈ s) → PAll n cs b s (.table [own.take 1, (own.drop 1).take 2, (own.drop 1).take 1, (own.drop 2).take 1]) := fun own pw l hm => by
      match own, pw, l, hm with
      | x :: y :: z :: r, pw, _, hm =>
        simp only [List.pairwise_cons, List.mem_cons] at pw
        have h1 := pw.1 y (.inl rfl)
        have h2 := pw.2.1 z (.inl rfl)
        refine pall_t1 cs dj rb rs (x := x) (y := y) (z := z) (r := [y, z]) (by simp) (by simp; omega) (by simp; omega) (by simp) (by omega) ?_
        rcases hm with hm | hm
        · exact .inl ⟨hm x (by simp), hm y (by simp), hm z (by simp)⟩
        · exact .inr ⟨hm x (by simp), hm y (by simp), hm z (by simp)⟩
      | [], _, l, _ => simp at l
      | [_], _, l, _ => simp at l
      | [_, _], _, l, _ => simp at l
    rcases h0 with h0 | h0
    · subst h0
      exact key _ (by simpa using ls) (by simpa using hl) (.inr fun x hx => by simpa using hx)
    · subst h0
      exact key _ (by simpa using lb) (by simpa using hl) (.inl fun x hx => by simpa using hx)
  · rename_i h0
    rw [not_or] at h0
    split
    · rename_i h1
      match b, s, lb, ls, h0, h1, hl, dj, rb, rs with
      | x1 :: x2 :: r, [y], lb, ls, _, _, _, dj, rb, rs =>
        simp only [List.pairwise_cons, List.mem_cons] at lb
        have h1 := lb.1 x2 (.inl rfl)
        have n1 : y ≠ x1 := fun q => dj x1 (by simp) (by simp [q])
        have n2 : y ≠ x2 := fun q => dj x2 (by simp) (by simp [q])
        refine pall_t2 cs dj rb rs (x := y) (y := x1) (z := x2) ((isort_perm _).trans ?_) ((isort_perm _).trans ?_) ((isort_perm _).trans ?_) (isort_pw _) (isort_pw _) (isort_pw _) ⟨n1, n2, by omega⟩ (.inr ⟨by simp, by simp, by simp⟩)
        · exact (List.perm_append_comm (l₁ := [x1, x2]) (l₂ := [y]))
        · exact (List.perm_append_comm (l₁ := [x1]) (l₂ := [y]))
        · exact (List.perm_append_comm (l₁ := [x2]) (l₂ := [y]))
      | [x1], [y], _, _, _, _, hl, _, _, _ => simp at hl
      | [], _, _, _, h0, _, _, _, _, _ => exact (h0.1 rfl).elim
      | _ :: _, [], _, _, h0, _, _, _, _, _ => exact (h0.2 rfl).elim
      | _ :: _, _ :: _ :: _, _, _, _, h1, _, _, _, _ => simp at h1; omega
    · rename_i h1
      match b, s, lb, ls, h0, h1, hl, dj, rb, rs with
      | x :: r, y1 :: y2 :: t, lb, ls, _, _, _, dj, rb, rs =>
        simp only [List.pairwise_cons, List.mem_cons] at ls
        have h1 := ls.1 y2 (.inl rfl)
        have n1 : x ≠ y1 := fun q => dj x (by simp) (by simp [q])
        have n2 : x ≠ y2 := fun q => dj x (by simp) (by simp [q])
        exact pall_t2 cs dj rb rs (x := x) (y := y1) (z := y2) (isort_perm _) (isort_perm _) (isort_perm _) (isort_pw _) (isort_pw _) (isort_pw _) ⟨n1, n2, by omega⟩ (.inl ⟨by simp, by simp, by simp⟩)
      | [], _, _, _, h0, _, _, _, _, _ => exact (h0.1 rfl).elim
      | _ :: _, [], _, _, h0, _, _, _, _, _ => exact (h0.2 rfl).elim
      | _ :: _, [_], _, _, _, h1, _, _, _, _ => simp at h1
theorem wild_fold {cs : List Con} (c5 : cs.length ≤ 5) (dn : Down ⟨[], cs⟩) : ∀ (ks : List Int) (q : List (Str × Ch) × List Int), (∀ k ∈ ks, 0 ≤ k) → (∀ (i : Nat) (e : Str × Ch), q.1[i]? = some e → CAll cs.length cs (cBuys cs i) (cSells cs i) e.2) → ∀ (i : Nat) (e : Str × Ch), (ks.foldl (lWildStep cs) q).1[i]? = some e → CAll cs.length cs (cBuys cs i) (cSells cs i) e.2
  | [], q, _, h => h
  | k :: ks, q, hk, h => by
    rw [List.foldl_cons]
    refine wild_fold c5 dn ks _ (fun x hx => hk x (List.mem_cons_of_mem _ hx)) fun i e he => ?_
    unfold lWildStep at he
    split at he
    · rename_i h2
      dsimp only at he
      split at he
      · unfold setH at he
        by_cases hi : k.toNat = i
        · rw [List.getElem?_set] at he
          rw [if_pos hi] at he
          split at he
          · have e2 := (Option.some.inj he).symm
            subst e2
            have hk0 : k = ((i : Nat) : Int) := by have := hk k List.mem_cons_self; omega
            rw [← hk0]
            have cr := cRow cs c5 k
            exact (lWild_all cs ((idxs_lt _).filter _) ((idxs_lt _).filter _) (down_dj dn k) cr.2.2.1 cr.2.2.2 h2).ch
          · cases he
        · rw [List.getElem?_set_ne hi] at he
          exact h i e he
      · exact h i e he
    · exact h i e he
theorem lWilds_ok {w : Web × List Int} (h : WebOk w.1) : WebOk (lWilds w).1 := by
  unfold lWilds
  have hl := (lWild_fold w.1.cs (idxs w.1.hs.length) (w.1.hs, w.2)).2
  refine ⟨h.c5, by dsimp only; rw [hl]; exact h.h5, fun c hc => by dsimp only; rw [hl]; exact h.se c hc, h.dn, ?_⟩
  exact wild_fold h.c5 h.dn _ _ (fun k hk => (idxs_mem.mp hk).1) h.al
/-! #### the web that isn't steady -/
theorem five {l : List Int} (h : l.Perm [0, 1, 2, 3, 4]) : (∃ a b c d e : Int, l = [a, b, c, d, e]) ∧ l.Nodup ∧ l.length = 5 ∧ ∀ x, x ∈ l ↔ 0 ≤ x ∧ x < 5 := by
  have hl := h.length_eq
  refine ⟨?_, h.nodup_iff.mpr (by decide), hl, fun x => ?_⟩
  · match l, hl with
    | [a, b, c, d, e], _ => exact ⟨a, b, c, d, e, rfl⟩
  · rw [h.mem_iff]
    simp only [List.mem_cons, List.not_mem_nil, or_false]
    omega
theorem u_fold (pl nu : List Int) : ∀ (ks : List Int) (q : (List Con × List (Str × Ch)) × List Int), ∃ (es : List Con) (fs : List (Str × Ch)), (ks.foldl (lUStep pl nu) q).1.1 = q.1.1 ++ es ∧ (ks.foldl (lUStep pl nu) q).1.2 = q.1.2 ++ fs ∧ es.length = ks.length ∧ fs.length = ks.length ∧
    (∀ (i : Nat) (e : Con), es[i]? = some e → ∃ k, ks[i]? = some k ∧ e.s = nthI pl (lUPair nu k).1 ∧ e.b = nthI pl (lUPair nu k).2) ∧ ∀ (i : Nat) (e : Str × Ch), fs[i]? = some e → ∃ k, ks[i]? = some k ∧ e.2 = .pl (lUChoice pl nu k)
  | [], q => ⟨[], [], by simp, by simp, rfl, rfl, fun i e h => by simp at h, fun i e h => by simp at h⟩
  | k :: ks, q => by
    obtain ⟨es, fs, h1, h2, h3, h4, h5, h6⟩ := u_fold pl nu ks (lUStep pl nu q k)
    rw [List.foldl_cons, h1, h2]
    refine ⟨⟨nthI pl (lUPair nu k).1, nthI pl (lUPair nu k).2, (tk 9 q.2).1⟩ :: es, (lWord (1 + 7 * k + (tk 7 (tk 9 q.2).2).1), .pl (lUChoice pl nu k)) :: fs, by unfold lUStep lUStep2; simp, by unfold lUStep lUStep2; simp, by simp [h3], by simp [h4], fun i e h => ?_, fun i e h => ?_⟩
    · cases i with
      | zero => have h := (Option.some.inj (show some _ = some e from h)); subst h; exact ⟨k, rfl, rfl, rfl⟩
      | succ i => exact h5 i e (by simpa using h)
    · cases i with
      | zero => have h := (Option.some.inj (show some _ = some e from h)); subst h; exact ⟨k, rfl, rfl⟩
      | succ i => exact h6 i e (by simpa using h)
theorem lUnsteady_ok (ds : List Int) : WebOk (lUnsteady ds).1 := by
  unfold lUnsteady lUnsteady1 lUEnd
  have pp := lMixed_all ds [0, 1, 2, 3, 4]
  generalize lMixed ds [0, 1, 2, 3, 4] 8 = m at pp
  have pu := lMixed_all m.1 [0, 1, 2, 3, 4]
  generalize lMixed m.1 [0, 1, 2, 3, 4] 8 = m2 at pu
  generalize m.2 = pl at pp
  generalize m2.2 = nu at pu
  obtain ⟨es, fs, h1, h2, h3, h4, h5, h6⟩ := u_fold pl nu (idxs 5) (([], []), m2.1)
  rw [List.nil_append] at h1 h2
  rw [idxs_len] at h3 h4
  dsimp only
  rw [h1, h2]
  obtain ⟨_, pn, pl5, pm⟩ := five pp
  obtain ⟨_, un, ul5, um⟩ := five pu
  -- a contract by its place
  have con : ∀ i : Nat, i < 5 → ∃ e, es[(nthI nu i).toNat]? = some e ∧ (0 ≤ nthI nu i ∧ nthI nu i < 5) ∧ e.s = nthI pl (lUPairs.getD i (0, 0)).1 ∧ e.b = nthI pl (lUPairs.getD i (0, 0)).2 := fun i hi => by
    have hm := nth_mem (xs := nu) (k := i) (by omega)
    have hr := (um _).mp hm
    have hlt : (nthI nu i).toNat < es.length := by omega
    obtain ⟨k, k1, k2, k3⟩ := h5 _ _ (List.getElem?_eq_getElem hlt)
    have ek := (idxs_get k1).1
    have hx := idx_nth un (i := i) (by omega)
    have e1 : lUPair nu k = lUPairs.getD i (0, 0) := by
      unfold lUPair
      have : k = nthI nu i := by omega
      rw [this]
      have : nu.idxOf (nthI nu i) = i := by omega
      rw [this]
    rw [e1] at k2 k3
    exact ⟨_, List.getElem?_eq_getElem hlt, hr, k2, k3⟩
  have all : ∀ c ∈ es, ∃ i : Nat, i < 5 ∧ c.s = nthI pl (lUPairs.getD i (0, 0)).1 ∧ c.b = nthI pl (lUPairs.getD i (0, 0)).2 := fun c hc => by
    obtain ⟨j, hj, e⟩ := List.mem_iff_getElem.mp hc
    obtain ⟨k, k1, k2, k3⟩ := h5 j c (by rw [List.getElem?_eq_getElem hj, e])
    have ek := idxs_get k1
    have := List.idxOf_lt_length_of_mem ((um k).mpr (by omega))
    exact ⟨nu.idxOf k, by omega, k2, k3⟩
  have rk : ∀ i : Nat, i < 5 → 2 ≤ (lUPairs.getD i (0, 0)).1 ∧ (lUPairs.getD i (0, 0)).2 < 2 := by decide
  have dn : ∃ r : Int → Nat, ∀ c ∈ es, r c.s < r c.b := ⟨fun h => if pl.idxOf h < 2 then 1 else 0, fun c hc => by
    obtain ⟨i, hi, e1, e2⟩ := all c hc
    have b := lUPairs_b i hi
    have r := rk i hi
    have a1 := idx_nth pn (i := (lUPairs.getD i (0, 0)).1) (by omega)
    have a2 := idx_nth pn (i := (lUPairs.getD i (0, 0)).2) (by omega)
    dsimp only
    rw [e1, e2, if_neg (by omega), if_pos (by omega)]
    omega⟩
  refine ⟨by dsimp only; omega, by dsimp only; omega, fun c hc => ?_, dn, fun i q hq => ?_⟩
  · obtain ⟨i, hi, e1, e2⟩ := all c hc
    have b := lUPairs_b i hi
    rw [e1, e2]
    dsimp only
    rw [h4]
    exact ⟨(pm _).mp (nth_mem (by omega)), (pm _).mp (nth_mem (by omega))⟩
  · obtain ⟨k, k1, k2⟩ := h6 i q hq
    have ek := idxs_get k1
    have hp := (pm k).mpr (by omega)
    have hj := List.idxOf_lt_length_of_mem hp
    have eg : nthI pl ((pl.idxOf k : Nat) : Int) = k := by
      unfold nthI
      rw [List.getD_eq_getElem?_getD, Int.toNat_natCast, List.getElem?_eq_getElem hj]
      exact List.getElem_idxOf hj
    rw [k2, ← ek.1]
    have buy : ∀ j : Nat, j < 5 → (lUPairs.getD j (0, 0)).2 = ((pl.idxOf k : Nat) : Int) → nthI nu j ∈ cBuys es k := fun j hj h => by
      obtain ⟨e, c1, c2, c3, c4⟩ := con j hj
      refine mem_cBuys.mpr ⟨by omega, ?_⟩
      unfold buyOf
      dsimp only
      rw [c1]
      dsimp only
      rw [c4, h, eg]
    have sell : ∀ j : Nat, j < 5 → (lUPairs.getD j (0, 0)).1 = ((pl.idxOf k : Nat) : Int) → nthI nu j ∈ cSells es k := fun j hj h => by
      obtain ⟨e, c1, c2, c3, c4⟩ := con j hj
      refine mem_cSells.mpr ⟨by omega, ?_⟩
      unfold selOf
      dsimp only
      rw [c1]
      dsimp only
      rw [c3, h, eg]
    have ne : ∀ i j : Nat, i < 5 → j < 5 → i ≠ j → nthI nu i ≠ nthI nu j := fun i j hi hj h z => by
      have a := idx_nth un (i := i) (by omega)
      have b := idx_nth un (i := j) (by omega)
      rw [z] at a; omega
    have cr := cRow es (by omega) k
    have dj := down_dj (cs := es) dn k
    have nb : (cBuys es k).Nodup := (idxs_nodup _).filter _
    have ns : (cSells es k).Nodup := (idxs_nodup _).filter _
    have side : ∀ (b s : List Int) (br sr : Int), 0 ≤ br → 0 ≤ sr → b.Nodup → s.Nodup → b.length ≤ 3 → s.length ≤ 3 → (∀ c ∈ b, c ∈ cBuys es k) → (∀ c ∈ s, c ∈ cSells es k) → PAll es.length es (cBuys es k) (cSells es k) (.sides br b sr s) := fun b s br sr h1 h2 n1 n2 l1 l2 m1 m2 =>
      ⟨(pg_sides es n1 n2 (fun c hb hs => dj c (m1 c hb) (m2 c hs)) h1 h2).wide m1 m2 dj, ⟨row_ok cr.2.2.1 cr.2.2.2 (fun x hx => .inl (m1 x hx)) l1, row_ok cr.2.2.1 cr.2.2.2 (fun x hx => .inr (m2 x hx)) l2⟩, trivial⟩
    refine PAll.ch ?_
    unfold lUChoice
    have hj5 : pl.idxOf k < 5 := by omega
    rcases (by omega : pl.idxOf k = 0 ∨ pl.idxOf k = 1 ∨ pl.idxOf k = 2 ∨ pl.idxOf k = 3 ∨ pl.idxOf k = 4) with e | e | e | e | e
    · rw [e] at buy ⊢
      show PAll _ _ _ _ (.table [[nthI nu 0], isort [nthI nu 1, nthI nu 2], [nthI nu 1], [nthI nu 2]])
      have n12 := ne 1 2 (by decide) (by decide) (by decide)
      refine pall_t1 es dj cr.2.2.1 cr.2.2.2 (fun u => by rw [isort_mem]; simp) (isort_nodup (by simpa using n12)) (isort_pw _) (by rw [(isort_perm _).length_eq]; simp) ⟨ne 0 1 (by decide) (by decide) (by decide), ne 0 2 (by decide) (by decide) (by decide)⟩ (.inl ⟨buy 0 (by decide) rfl, buy 1 (by decide) rfl, buy 2 (by decide) rfl⟩)
    · rw [e] at buy ⊢
      have n := ne 4 3 (by decide) (by decide) (by decide)
      refine side [nthI nu 4, nthI nu 3] [] 1 0 (by decide) (by decide) (by simpa using n) (by simp) (by simp) (by simp) (fun c hc => ?_) (by simp)
      simp only [List.mem_cons, List.not_mem_nil, or_false] at hc
      rcases hc with q | q <;> rw [q]
      · exact buy 4 (by decide) rfl
      · exact buy 3 (by decide) rfl
    · rw [e] at sell ⊢
      have n := ne 3 0 (by decide) (by decide) (by decide)
      refine side [] [nthI nu 3, nthI nu 0] 0 1 (by decide) (by decide) (by simp) (by simpa using n) (by simp) (by simp) (by simp) (fun c hc => ?_)
      simp only [List.mem_cons, List.not_mem_nil, or_false] at hc
      rcases hc with q | q <;> rw [q]
      · exact sell 3 (by decide) rfl
      · exact sell 0 (by decide) rfl
    · rw [e] at sell ⊢
      have n := ne 1 4 (by decide) (by decide) (by decide)
      refine side [] [nthI nu 1, nthI nu 4] 0 1 (by decide) (by decide) (by simp) (by simpa using n) (by simp) (by simp) (by simp) (fun c hc => ?_)
      simp only [List.mem_cons, List.not_mem_nil, or_false] at hc
      rcases hc with q | q <;> rw [q]
      · exact sell 1 (by decide) rfl
      · exact sell 4 (by decide) rfl
    · rw [e] at sell ⊢
      refine side [] [nthI nu 2] 0 1 (by decide) (by decide) (by simp) (by simp) (by simp) (by simp) (by simp) (fun c hc => ?_)
      rw [List.mem_singleton.mp hc]
      exact sell 2 (by decide) rfl
theorem lWeb_ok (s ds : List Int) : WebOk (lWeb s ds).1 := by
  unfold lWeb lWeb1
  split
  · exact lUnsteady_ok _
  · split
    · exact lSteady_ok _ _
    · exact lWilds_ok (lSteady_ok _ _)
end N50
/-! text C1 -/
set_option maxHeartbeats 4000000
namespace N50
/-! ### networks at rest: the theory, with no program in sight -/
structure Net where
  C : Int → Prop
  sel : Int → Int
  buy : Int → Int
  rk : Int → Nat
  M : Nat
  top : ∀ c, C c → rk (buy c) ≤ M
  down : ∀ c, C c → rk (sel c) < rk (buy c)
  X : Int → (Int → Prop) → Int → Prop
namespace Net
variable (W : Net)
def B (h c : Int) : Prop := W.C c ∧ W.buy c = h
def S (h c : Int) : Prop := W.C c ∧ W.sel c = h
def own (h c : Int) : Prop := W.B h c ∨ W.S h c
structure Ax : Prop where
  sub : ∀ h Y c, W.X h Y c → Y c ∧ W.own h c
  irc : ∀ h (Y Z : Int → Prop), (∀ c, W.X h Y c → Z c) → (∀ c, Z c → W.own h c → Y c) → ∀ c, W.X h Z c ↔ W.X h Y c
  sssB : ∀ h (Y Y' : Int → Prop), (∀ c, W.S h c → (Y c ↔ Y' c)) → (∀ c, W.B h c → Y c → Y' c) → ∀ c, W.B h c → Y c → W.X h Y' c → W.X h Y c
  sssS : ∀ h (Y Y' : Int → Prop), (∀ c, W.B h c → (Y c ↔ Y' c)) → (∀ c, W.S h c → Y c → Y' c) → ∀ c, W.S h c → Y c → W.X h Y' c → W.X h Y c
  cscB : ∀ h (Y Y' : Int → Prop), (∀ c, W.B h c → (Y c ↔ Y' c)) → (∀ c, W.S h c → Y c → Y' c) → ∀ c, W.B h c → W.X h Y c → W.X h Y' c
  cscS : ∀ h (Y Y' : Int → Prop), (∀ c, W.S h c → (Y c ↔ Y' c)) → (∀ c, W.B h c → Y c → Y' c) → ∀ c, W.S h c → W.X h Y c → W.X h Y' c
variable {W}
theorem BS (h c : Int) (hb : W.B h c) (hs : W.S h c) : False := by
  have := W.down c hb.1
  rw [hb.2, hs.2] at this
  exact Nat.lt_irrefl _ this
theorem Ax.cong (A : W.Ax) {h : Int} {Y Z : Int → Prop} (e : ∀ c, W.own h c → (Y c ↔ Z c)) (c : Int) : W.X h Z c ↔ W.X h Y c :=
  A.irc h Y Z (fun c hc => (e c (A.sub h Y c hc).2).mp (A.sub h Y c hc).1) (fun c hc ho => (e c ho).mpr hc) c
variable (W)
def Kept (N : Int → Prop) : Prop := ∀ h c, W.own h c → N c → W.X h N c
def Gains (N Z : Int → Prop) : Prop := (∃ c, Z c) ∧ (∀ c, Z c → W.C c ∧ ¬ N c) ∧ ∀ h c, W.own h c → Z c → W.X h (fun x => N x ∨ Z x) c
/-- what a house is offered -/
def V (N O : Int → Prop) (h c : Int) : Prop := (W.B h c ∧ O c) ∨ (W.S h c ∧ (N c ∨ ¬ O c))
def Jdg (N O : Int → Prop) : Prop := (∀ c, N c → O c) ∧ ∀ h c, W.X h (W.V N O h) c ↔ (N c ∧ W.own h c)
def Out (N : Int → Prop) (c : Int) : Prop := W.C c ∧ ¬ N c
def P1 (N : Int → Prop) (c : Int) : Int → Prop := fun x => N x ∨ x = c
def P2 (N : Int → Prop) (c d : Int) : Int → Prop := fun x => N x ∨ x = c ∨ x = d
inductive Tl (N : Int → Prop) : Int → Prop
  | ends (c : Int) : W.Out N c → W.X (W.buy c) (P1 N c) c → Tl N c
  | step (c d : Int) : W.Out N c → W.Out N d → W.sel d = W.buy c → W.X (W.buy c) (P2 N c d) c → W.X (W.buy c) (P2 N c d) d → Tl N d → Tl N c
def Path (N : Int → Prop) : Prop := ∃ c, W.Out N c ∧ W.X (W.sel c) (P1 N c) c ∧ W.Tl N c
/-- the offers that are told: N, and what its seller would sell, given its buys in O -/
def Told (N O : Int → Prop) : Prop := (∀ c, O c → W.C c) ∧ ∀ c, W.C c → (O c ↔ (N c ∨ W.X (W.sel c) (fun x => (W.B (W.sel c) x ∧ O x) ∨ (W.S (W.sel c) x ∧ N x) ∨ x = c) c))
variable {W}
theorem jdg_kept (A : W.Ax) {N O : Int → Prop} (hj : W.Jdg N O) : W.Kept N := fun h c ho hc => by
  have e := A.irc h (W.V N O h) N (fun x hx => ((hj.2 h x).mp hx).1) (fun x hx hox => by
    rcases hox with hb | hs
    · exact .inl ⟨hb, hj.1 x hx⟩
    · exact .inr ⟨hs, .inl hx⟩) c
  exact e.mpr ((hj.2 h c).mpr ⟨hc, ho⟩)
theorem lot_down (A : W.Ax) {N O Z : Int → Prop} (hj : W.Jdg N O) (hz : ∀ c, Z c → W.C c ∧ ¬ N c) (hg : ∀ h c, W.own h c → Z c → W.X h (fun x => N x ∨ Z x) c) {c : Int} (hc : Z c) (ho : O c) : ∃ d, Z d ∧ O d ∧ W.sel d = W.buy c := by
  refine Classical.byContradiction fun no => ?_
  have no' : ∀ d, Z d → W.S (W.buy c) d → ¬ O d := fun d h1 h2 h3 => no ⟨d, h1, h3, h2.2⟩
  have cb : W.B (W.buy c) c := ⟨(hz c hc).1, rfl⟩
  generalize W.buy c = h at cb no'
  have x1 := hg h c (.inl cb) hc
  have x2 : W.X h (fun x => (W.B h x → O x) ∧ (N x ∨ Z x)) c := A.sssB h _ _ (fun x hs => ⟨fun q => q.2, fun q => ⟨fun hb => (BS h x hb hs).elim, q⟩⟩) (fun x _ q => q.2) c cb ⟨fun _ => ho, .inr hc⟩ x1
  have x3 : W.X h (fun x => (W.B h x ∧ O x ∧ (N x ∨ Z x)) ∨ (W.S h x ∧ (N x ∨ ¬ O x))) c := A.cscB h _ _ (fun x hb => ⟨fun q => .inl ⟨hb, q.1 hb, q.2⟩, fun q => by
    rcases q with q | q
    · exact ⟨fun _ => q.2.1, q.2.2⟩
    · exact (BS h x hb q.1).elim⟩) (fun x hs q => .inr ⟨hs, by
      rcases q.2 with q | q
      · exact .inl q
      · exact .inr (no' x q hs)⟩) c cb x2
  have x4 := (A.irc h (W.V N O h) _ (fun x hx => by
    obtain ⟨q1, q2⟩ := (hj.2 h x).mp hx
    rcases q2 with q2 | q2
    · exact .inl ⟨q2, hj.1 x q1, .inl q1⟩
    · exact .inr ⟨q2, .inl q1⟩) (fun x q _ => by
      rcases q with q | q
      · exact .inl ⟨q.1, q.2.1⟩
      · exact .inr q) c).mp x3
  exact (hz c hc).2 ((hj.2 h c).mp x4).1
theorem lot_up (A : W.Ax) {N O Z : Int → Prop} (hj : W.Jdg N O) (hz : ∀ c, Z c → W.C c ∧ ¬ N c) (hg : ∀ h c, W.own h c → Z c → W.X h (fun x => N x ∨ Z x) c) {c : Int} (hc : Z c) (ho : ¬ O c) : ∃ d, Z d ∧ ¬ O d ∧ W.buy d = W.sel c := by
  refine Classical.byContradiction fun no => ?_
  have no' : ∀ d, Z d → W.B (W.sel c) d → O d := fun d h1 h2 => Classical.byContradiction fun h3 => no ⟨d, h1, h3, h2.2⟩
  have cs : W.S (W.sel c) c := ⟨(hz c hc).1, rfl⟩
  generalize W.sel c = h at cs no'
  have x1 := hg h c (.inr cs) hc
  have x2 : W.X h (fun x => (W.S h x → N x ∨ ¬ O x) ∧ (N x ∨ Z x)) c := A.sssS h _ _ (fun x hb => ⟨fun q => q.2, fun q => ⟨fun hs => (BS h x hb hs).elim, q⟩⟩) (fun x _ q => q.2) c cs ⟨fun _ => .inr ho, .inr hc⟩ x1
  have x3 : W.X h (fun x => (W.B h x ∧ O x) ∨ (W.S h x ∧ (N x ∨ ¬ O x) ∧ (N x ∨ Z x))) c := A.cscS h _ _ (fun x hs => ⟨fun q => .inr ⟨hs, q.1 hs, q.2⟩, fun q => by
    rcases q with q | q
    · exact (BS h x q.1 hs).elim
    · exact ⟨fun _ => q.2.1, q.2.2⟩⟩) (fun x hb q => .inl ⟨hb, by
      rcases q.2 with q | q
      · exact hj.1 x q
      · exact no' x q hb⟩) c cs x2
  have x4 := (A.irc h (W.V N O h) _ (fun x hx => by
    obtain ⟨q1, q2⟩ := (hj.2 h x).mp hx
    rcases q2 with q2 | q2
    · exact .inl ⟨q2, hj.1 x q1⟩
    · exact .inr ⟨q2, .inl q1, .inl q1⟩) (fun x q _ => by
      rcases q with q | q
      · exact .inl q
      · exact .inr ⟨q.1, q.2.1⟩) c).mp x3
  exact (hz c hc).2 ((hj.2 h c).mp x4).1
theorem jdg_noLot (A : W.Ax) {N O : Int → Prop} (hj : W.Jdg N O) (Z : Int → Prop) : ¬ W.Gains N Z := fun ⟨⟨c0, h0⟩, hz, hg⟩ => by
  have dn : ∀ n c, Z c → O c → W.M - W.rk (W.buy c) ≤ n → False := by
    intro n
    induction n with
    | zero =>
      intro c hc ho hn
      obtain ⟨d, h1, h2, h3⟩ := lot_down A hj hz hg hc ho
      have t := W.top d (hz d h1).1
      have e := W.down d (hz d h1).1
      rw [h3] at e
      omega
    | succ n ih =>
      intro c hc ho hn
      obtain ⟨d, h1, h2, h3⟩ := lot_down A hj hz hg hc ho
      have e := W.down d (hz d h1).1
      have t := W.top d (hz d h1).1
      rw [h3] at e
      exact ih d h1 h2 (by omega)
  have up : ∀ n c, Z c → ¬ O c → W.rk (W.sel c) ≤ n → False := by
    intro n
    induction n with
    | zero =>
      intro c hc ho hn
      obtain ⟨d, h1, h2, h3⟩ := lot_up A hj hz hg hc ho
      have e := W.down d (hz d h1).1
      rw [h3] at e
      omega
    | succ n ih =>
      intro c hc ho hn
      obtain ⟨d, h1, h2, h3⟩ := lot_up A hj hz hg hc ho
      have e := W.down d (hz d h1).1
      rw [h3] at e
      exact ih d h1 h2 (by omega)
  by_cases ho : O c0
  · exact dn _ c0 h0 ho (Nat.le_refl _)
  · exact up _ c0 h0 ho (Nat.le_refl _)
theorem climb1 (A : W.Ax) {N O : Int → Prop} (hT : W.Told N O) {b : Int} (ho : O b) (hb : ¬ N b) (t : W.Tl N b) : W.Path N ∨ ∃ a, O a ∧ ¬ N a ∧ W.Tl N a ∧ W.rk (W.sel a) < W.rk (W.sel b) := by
  have cb := hT.1 b ho
  have nO : ∀ c, N c → W.C c → O c := fun c h hc => (hT.2 c hc).mpr (.inl h)
  have xb := ((hT.2 b cb).mp ho).resolve_left hb
  have sb : W.S (W.sel b) b := ⟨cb, rfl⟩
  by_cases ha : ∃ a, W.B (W.sel b) a ∧ W.X (W.sel b) (fun x => (W.B (W.sel b) x ∧ O x) ∨ (W.S (W.sel b) x ∧ N x) ∨ x = b) a ∧ ¬ N a
  · obtain ⟨a, ba, xa, na⟩ := ha
    right
    have oa : O a := by
      rcases (A.sub _ _ _ xa).1 with q | q | q
      · exact q.2
      · exact (na q.2).elim
      · rw [q]; exact ho
    have lt : W.rk (W.sel a) < W.rk (W.sel b) := by have := W.down a ba.1; rwa [ba.2] at this
    have xa2 : W.X (W.sel b) (P2 N a b) a := A.sssB _ _ _ (fun x hs => by
      constructor
      · rintro (q | q | q)
        · exact .inr (.inl ⟨hs, q⟩)
        · rw [q] at hs; exact (BS _ _ ba hs).elim
        · exact .inr (.inr q)
      · rintro (q | q | q)
        · exact (BS _ _ q.1 hs).elim
        · exact .inl q.2
        · exact .inr (.inr q)) (fun x hx q => by
      rcases q with q | q | q
      · exact .inl ⟨hx, nO x q hx.1⟩
      · exact .inl ⟨hx, by rw [q]; exact oa⟩
      · exact .inr (.inr q)) a ba (.inr (.inl rfl)) xa
    refine ⟨a, oa, na, ?_, lt⟩
    by_cases xb2 : W.X (W.sel b) (P2 N a b) b
    · exact .step a b ⟨ba.1, na⟩ ⟨cb, hb⟩ ba.2.symm (by rw [ba.2]; exact xa2) (by rw [ba.2]; exact xb2) t
    · refine .ends a ⟨ba.1, na⟩ ?_
      rw [ba.2]
      refine (A.irc _ (P2 N a b) (P1 N a) (fun x hx => ?_) (fun x q _ => ?_) a).mpr xa2
      · rcases (A.sub _ _ _ hx).1 with q | q | q
        · exact .inl q
        · exact .inr q
        · rw [q] at hx; exact (xb2 hx).elim
      · rcases q with q | q
        · exact .inl q
        · exact .inr (.inl q)
  · left
    refine ⟨b, ⟨cb, hb⟩, ?_, t⟩
    refine (A.irc _ _ (P1 N b) (fun x hx => ?_) (fun x q hx => ?_) b).mpr xb
    · rcases (A.sub _ _ _ hx).1 with q | q | q
      · exact Classical.byContradiction fun h => ha ⟨x, q.1, hx, fun z => h (.inl z)⟩
      · exact .inl q.2
      · exact .inr q
    · rcases q with q | q
      · rcases hx with hx | hx
        · exact .inl ⟨hx, nO x q hx.1⟩
        · exact .inr (.inl ⟨hx, q⟩)
      · exact .inr (.inr q)
theorem climb (A : W.Ax) {N O : Int → Prop} (hT : W.Told N O) : ∀ n b, W.rk (W.sel b) ≤ n → O b → ¬ N b → W.Tl N b → W.Path N := by
  intro n
  induction n with
  | zero =>
    intro b hn ho hb t
    rcases climb1 A hT ho hb t with h | ⟨a, _, _, _, h⟩
    · exact h
    · omega
  | succ n ih =>
    intro b hn ho hb t
    rcases climb1 A hT ho hb t with h | ⟨a, h1, h2, h3, h⟩
    · exact h
    · exact ih a (by omega) h1 h2 h3
/-- kept and no path: the told offers are right -/
theorem told_jdg (A : W.Ax) {N O : Int → Prop} (hN : ∀ c, N c → W.C c) (hk : W.Kept N) (hT : W.Told N O) (hp : ¬ W.Path N) : W.Jdg N O := by
  have nO : ∀ c, N c → O c := fun c h => (hT.2 c (hN c h)).mpr (.inl h)
  refine ⟨nO, fun h => ?_⟩
  have c1 : ∀ c, W.X h (W.V N O h) c → W.S h c → N c := fun c hx hs => Classical.byContradiction fun nc => by
    have no : ¬ O c := by
      rcases (A.sub _ _ _ hx).1 with q | q
      · exact (BS _ _ q.1 hs).elim
      · exact q.2.resolve_left nc
    have e := fun z => no ((hT.2 c hs.1).mpr z)
    refine e (.inr ?_)
    rw [hs.2]
    refine A.sssS h _ (W.V N O h) (fun x hb => ?_) (fun x hx' q => ?_) c hs (.inr (.inr rfl)) hx
    · constructor
      · rintro (q | q | q)
        · exact .inl q
        · exact (BS _ _ hb q.1).elim
        · rw [q] at hb; exact (BS _ _ hb hs).elim
      · rintro (q | q)
        · exact .inl q
        · exact (BS _ _ hb q.1).elim
    · rcases q with q | q | q
      · exact (BS _ _ q.1 hx').elim
      · exact .inr ⟨hx', .inl q.2⟩
      · exact .inr ⟨hx', .inr (by rw [q]; exact no)⟩
  have e1 := A.irc h (W.V N O h) (fun x => (W.B h x ∧ O x) ∨ (W.S h x ∧ N x)) (fun x hx => by
    rcases (A.sub _ _ _ hx).1 with q | q
    · exact .inl q
    · exact .inr ⟨q.1, c1 x hx q.1⟩) (fun x q _ => by
    rcases q with q | q
    · exact .inl q
    · exact .inr ⟨q.1, .inl q.2⟩)
  have c2 : ∀ b, W.B h b → W.X h (fun x => (W.B h x ∧ O x) ∨ (W.S h x ∧ N x)) b → N b := fun b hb hx => Classical.byContradiction fun nb => by
    have ob : O b := by
      rcases (A.sub _ _ _ hx).1 with q | q
      · exact q.2
      · exact (nb q.2).elim
    have xb : W.X h (P1 N b) b := A.sssB h _ _ (fun x hs => by
      constructor
      · rintro (q | q)
        · exact .inr ⟨hs, q⟩
        · rw [q] at hs; exact (BS _ _ hb hs).elim
      · rintro (q | q)
        · exact (BS _ _ q.1 hs).elim
        · exact .inl q.2) (fun x hx' q => by
      rcases q with q | q
      · exact .inl ⟨hx', nO x q⟩
      · exact .inl ⟨hx', by rw [q]; exact ob⟩) b hb (.inr rfl) hx
    exact hp (climb A hT _ b (Nat.le_refl _) ob nb (.ends b ⟨hb.1, nb⟩ (by rw [hb.2]; exact xb)))
  have e2 := A.irc h (fun x => (W.B h x ∧ O x) ∨ (W.S h x ∧ N x)) N (fun x hx => by
    rcases (A.sub _ _ _ hx).1 with q | q
    · exact c2 x q.1 hx
    · exact q.2) (fun x q ho => by
    rcases ho with ho | ho
    · exact .inl ⟨ho, nO x q⟩
    · exact .inr ⟨ho, q⟩)
  intro c
  rw [← e1 c, ← e2 c]
  exact ⟨fun hx => ⟨(A.sub _ _ _ hx).1, (A.sub _ _ _ hx).2⟩, fun q => hk h c q.2 q.1⟩
theorem tl_lot (A : W.Ax) {N : Int → Prop} {c : Int} (t : W.Tl N c) : ∃ Z : Int → Prop, Z c ∧ (∀ d, Z d → W.Out N d) ∧ (∀ d, Z d → d = c ∨ W.rk (W.buy c) ≤ W.rk (W.sel d)) ∧ (∀ d, Z d → W.X (W.buy d) (fun x => N x ∨ Z x) d) ∧ (∀ d, Z d → d ≠ c → W.X (W.sel d) (fun x => N x ∨ Z x) d) := by
  induction t with
  | ends c o x => exact ⟨fun y => y = c, rfl, fun d h => by rw [h]; exact o, fun d h => .inl h, fun d h => by rw [h]; exact x, fun d h n => (n h).elim⟩
  | step c d oc od e xc xd t ih =>
    obtain ⟨Z, z0, z1, z2, z3, z4⟩ := ih
    have rc := W.down c oc.1
    have rd := W.down d od.1
    rw [e] at rd
    have far : ∀ h, W.rk (W.buy c) < W.rk h → ∀ y, W.X h (fun x => N x ∨ Z x) y → W.X h (fun x => N x ∨ (x = c ∨ Z x)) y := fun h hr y hx =>
      (A.cong (fun x ho => by
        constructor
        · rintro (q | q)
          · exact .inl q
          · exact .inr (.inr q)
        · rintro (q | q | q)
          · exact .inl q
          · subst q
            rcases ho with ho | ho
            · rw [ho.2] at hr; omega
            · rw [ho.2] at rc; omega
          · exact .inr q) y).mpr hx
    have mid : ∀ y, W.X (W.buy c) (P2 N c d) y → W.X (W.buy c) (fun x => N x ∨ (x = c ∨ Z x)) y := fun y hx =>
      (A.cong (fun x ho => by
        constructor
        · rintro (q | q | q)
          · exact .inl q
          · exact .inr (.inl q)
          · exact .inr (.inr (by rw [q]; exact z0))
        · rintro (q | q | q)
          · exact .inl q
          · exact .inr (.inl q)
          · rcases z2 x q with r | r
            · exact .inr (.inr r)
            · have rx := W.down x (z1 x q).1
              rcases ho with ho | ho
              · rw [ho.2] at rx; omega
              · rw [ho.2] at r; omega) y).mpr hx
    refine ⟨fun y => y = c ∨ Z y, .inl rfl, fun y h => ?_, fun y h => ?_, fun y h => ?_, fun y h n => ?_⟩
    · rcases h with h | h
      · rw [h]; exact oc
      · exact z1 y h
    · rcases h with h | h
      · exact .inl h
      · rcases z2 y h with r | r
        · rw [r, e]; exact .inr (Nat.le_refl _)
        · right; omega
    · rcases h with h | h
      · rw [h]; exact mid c xc
      · refine far _ ?_ y (z3 y h)
        have ry := W.down y (z1 y h).1
        rcases z2 y h with r | r
        · rw [r] at ry ⊢; rw [e] at ry; exact ry
        · omega
    · have h := h.resolve_left n
      by_cases hd : y = d
      · rw [hd, e]; exact mid d xd
      · refine far _ ?_ y (z4 y h hd)
        rcases z2 y h with r | r
        · exact (hd r).elim
        · omega
theorem path_lot (A : W.Ax) {N : Int → Prop} (hp : W.Path N) : ∃ Z, W.Gains N Z := by
  obtain ⟨c, oc, xc, t⟩ := hp
  obtain ⟨Z, z0, z1, z2, z3, z4⟩ := tl_lot A t
  refine ⟨Z, ⟨c, z0⟩, z1, fun h y ho hz => ?_⟩
  rcases ho with ho | ho
  · rw [← ho.2]; exact z3 y hz
  · rw [← ho.2]
    by_cases hy : y = c
    · subst hy
      have rc := W.down y oc.1
      exact (A.cong (fun x hx => by
        constructor
        · rintro (q | q)
          · exact .inl q
          · exact .inr (by rw [q]; exact z0)
        · rintro (q | q)
          · exact .inl q
          · rcases z2 x q with r | r
            · exact .inr r
            · have rx := W.down x (z1 x q).1
              rcases hx with hx | hx
              · rw [hx.2] at rx; omega
              · rw [hx.2] at r; omega) y).mpr xc
    · exact z4 y hz hy
/-- the four answers are one -/
theorem rest_jdg (A : W.Ax) {N O : Int → Prop} (hN : ∀ c, N c → W.C c) (hT : W.Told N O) : W.Jdg N O ↔ (W.Kept N ∧ ∀ Z, ¬ W.Gains N Z) :=
  ⟨fun h => ⟨jdg_kept A h, jdg_noLot A h⟩, fun h => told_jdg A hN h.1 hT fun p => by
    obtain ⟨Z, z⟩ := path_lot A p
    exact h.2 Z z⟩
theorem rest_path (A : W.Ax) {N O : Int → Prop} (hN : ∀ c, N c → W.C c) (hT : W.Told N O) : (W.Kept N ∧ ¬ W.Path N) ↔ (W.Kept N ∧ ∀ Z, ¬ W.Gains N Z) :=
  ⟨fun h => ⟨h.1, jdg_noLot A (told_jdg A hN h.1 hT h.2)⟩, fun h => ⟨h.1, fun p => by
    obtain ⟨Z, z⟩ := path_lot A p
    exact h.2 Z z⟩⟩
end Net
end N50
/-! text M7 -/
set_option maxHeartbeats 4000000
namespace N50
open PySem Classical
/-! ### a web of the law as a network of the theory -/
noncomputable def lst (w : Web) (Y : Int → Prop) : List Int := (idxs w.cs.length).filter fun x => decide (Y x)
theorem mem_lst {w : Web} {Y : Int → Prop} {c : Int} : c ∈ lst w Y ↔ CIx w c ∧ Y c := by unfold lst; rw [List.mem_filter, idxs_mem, decide_eq_true_iff]; exact Iff.rfl
def Rk (w : Web) (rk : Int → Nat) : Prop := ∀ c ∈ w.cs, rk c.s < rk c.b
theorem con_w {w : Web} {c : Int} (h : CIx w c) : ∃ k ∈ w.cs, w.cs[c.toNat]? = some k ∧ selOf w c = k.s ∧ buyOf w c = k.b := con_at (cs := w.cs) h
theorem rk_down {w : Web} {rk : Int → Nat} (hr : Rk w rk) (c : Int) (h : CIx w c) : rk (selOf w c) < rk (buyOf w c) := by
  obtain ⟨k, k1, _, k2, k3⟩ := con_w h
  rw [k2, k3]; exact hr k k1
theorem rk_top {w : Web} {rk : Int → Nat} (c : Int) (h : CIx w c) : rk (buyOf w c) ≤ (w.cs.map fun c => rk c.b).sum := by
  obtain ⟨k, k1, _, _, k3⟩ := con_w h
  rw [k3]
  have : ∀ (l : List Con), k ∈ l → rk k.b ≤ (l.map fun c => rk c.b).sum := fun l => by
    induction l with
    | nil => intro h; simp at h
    | cons a l ih =>
      intro h
      rw [List.map_cons, List.sum_cons]
      rcases List.mem_cons.mp h with q | q
      · rw [q]; omega
      · have := ih q; omega
  exact this _ k1
noncomputable def netOf (w : Web) (rk : Int → Nat) (hr : Rk w rk) : Net :=
  { C := CIx w, sel := selOf w, buy := buyOf w, rk := rk, M := (w.cs.map fun c => rk c.b).sum, top := fun c h => rk_top c h, down := fun c h => rk_down hr c h, X := fun h Y c => HIx w h ∧ c ∈ choose w h (lst w Y) }
section
variable {w : Web} {rk : Int → Nat} {hr : Rk w rk}
theorem gc_house (W : WebOk w) {h : Int} (hh : HIx w h) : GC (fun c => c ∈ cBuys w.cs h) (fun c => c ∈ cSells w.cs h) (choose w h) ∧ CAll w.cs.length w.cs (cBuys w.cs h) (cSells w.cs h) (chOf w h) := by
  obtain ⟨n, rfl⟩ := Int.eq_ofNat_of_zero_le hh.1
  have hn : n < w.hs.length := by have := hh.2; omega
  have e : w.hs[n]? = some w.hs[n] := List.getElem?_eq_getElem hn
  have A := W.al n _ e
  have e2 : chOf w (n : Int) = w.hs[n].2 := by unfold chOf; rw [Int.toNat_natCast, e]
  rw [e2]
  refine ⟨A.cg.1.same (fun Y c => ?_) fun Y => ?_, A⟩
  · unfold choose; rw [isort_mem, e2]
  · unfold choose; rw [e2]; exact isort_nodup (A.cg.1.nd Y)
theorem B_iff {h c : Int} : (netOf w rk hr).B h c ↔ c ∈ cBuys w.cs h := mem_cBuys.symm
theorem S_iff {h c : Int} : (netOf w rk hr).S h c ↔ c ∈ cSells w.cs h := mem_cSells.symm
theorem house_of (W : WebOk w) {h c : Int} (ho : (netOf w rk hr).own h c) : HIx w h := by
  rcases ho with ⟨h1, h2⟩ | ⟨h1, h2⟩
  · obtain ⟨k, k1, _, k2, k3⟩ := con_w h1
    have h2 : buyOf w c = h := h2
    rw [← h2, k3]; exact (W.se k k1).2
  · obtain ⟨k, k1, _, k2, k3⟩ := con_w h1
    have h2 : selOf w c = h := h2
    rw [← h2, k2]; exact (W.se k k1).1
theorem own_C {h c : Int} (ho : (netOf w rk hr).own h c) : CIx w c := ho.elim (fun z => z.1) fun z => z.1
theorem ax (W : WebOk w) : (netOf w rk hr).Ax := by
  have key : ∀ {h : Int}, HIx w h → ∀ (b s : Int → Prop), ((∀ c, b c → CIx w c) ∧ ∀ c, s c → CIx w c) → GH b s (choose w h) → ∀ (Y Y' : Int → Prop), ((∀ c, s c → (Y c ↔ Y' c)) → (∀ c, b c → Y c → Y' c) → ∀ c, b c → Y c → c ∈ choose w h (lst w Y') → c ∈ choose w h (lst w Y)) ∧ ((∀ c, b c → (Y c ↔ Y' c)) → (∀ c, s c → Y c → Y' c) → ∀ c, b c → c ∈ choose w h (lst w Y) → c ∈ choose w h (lst w Y')) := fun {h} hh b s hC G Y Y' =>
    ⟨fun h1 h2 c hb hy hx => G.sss (lst w Y) (lst w Y') (fun c hc => by rw [mem_lst, mem_lst, h1 c hc]) (fun c hc hy => mem_lst.mpr ⟨hC.1 c hc, h2 c hc (mem_lst.mp hy).2⟩) c hb (mem_lst.mpr ⟨hC.1 c hb, hy⟩) hx,
     fun h1 h2 c hb hx => G.csc (lst w Y) (lst w Y') (fun c hc => by rw [mem_lst, mem_lst, h1 c hc]) (fun c hc hy => mem_lst.mpr ⟨hC.2 c hc, h2 c hc (mem_lst.mp hy).2⟩) c hb hx⟩
  have cB : ∀ h c, c ∈ cBuys w.cs h → CIx w c := fun h c hc => (mem_cBuys.mp hc).1
  have cS : ∀ h c, c ∈ cSells w.cs h → CIx w c := fun h c hc => (mem_cSells.mp hc).1
  refine ⟨fun h Y c hx => ?_, fun h Y Z h1 h2 c => ?_, fun h Y Y' h1 h2 c hb hy hx => ?_, fun h Y Y' h1 h2 c hb hy hx => ?_, fun h Y Y' h1 h2 c hb hx => ?_, fun h Y Y' h1 h2 c hb hx => ?_⟩
  · obtain ⟨q1, q2⟩ := (gc_house W hx.1).1.sub _ c hx.2
    exact ⟨(mem_lst.mp q1).2, q2.imp B_iff.mpr S_iff.mpr⟩
  · by_cases hh : HIx w h
    · have := (gc_house W hh).1.irc (lst w Y) (lst w Z) (fun c hc => mem_lst.mpr ⟨(mem_lst.mp ((gc_house W hh).1.sub _ c hc).1).1, h1 c ⟨hh, hc⟩⟩) (fun c hc ho => mem_lst.mpr ⟨(mem_lst.mp hc).1, h2 c (mem_lst.mp hc).2 (ho.imp B_iff.mpr S_iff.mpr)⟩) c
      exact ⟨fun q => ⟨hh, this.mp q.2⟩, fun q => ⟨hh, this.mpr q.2⟩⟩
    · exact ⟨fun q => (hh q.1).elim, fun q => (hh q.1).elim⟩
  · exact ⟨hx.1, (key hx.1 _ _ ⟨cB h, cS h⟩ (gc_house W hx.1).1.B Y Y').1 (fun c hc => h1 c (S_iff.mpr hc)) (fun c hc => h2 c (B_iff.mpr hc)) c (B_iff.mp hb) hy hx.2⟩
  · exact ⟨hx.1, (key hx.1 _ _ ⟨cS h, cB h⟩ (gc_house W hx.1).1.S Y Y').1 (fun c hc => h1 c (B_iff.mpr hc)) (fun c hc => h2 c (S_iff.mpr hc)) c (S_iff.mp hb) hy hx.2⟩
  · exact ⟨hx.1, (key hx.1 _ _ ⟨cB h, cS h⟩ (gc_house W hx.1).1.B Y Y').2 (fun c hc => h1 c (B_iff.mpr hc)) (fun c hc => h2 c (S_iff.mpr hc)) c (B_iff.mp hb) hx.2⟩
  · exact ⟨hx.1, (key hx.1 _ _ ⟨cS h, cB h⟩ (gc_house W hx.1).1.S Y Y').2 (fun c hc => h1 c (S_iff.mpr hc)) (fun c hc => h2 c (B_iff.mpr hc)) c (S_iff.mp hb) hx.2⟩
/-- what is chosen out of a list that tells the set -/
theorem X_list (W : WebOk w) {h : Int} (hh : HIx w h) {Y : Int → Prop} {L : List Int} (e : ∀ c, (netOf w rk hr).own h c → (c ∈ L ↔ Y c)) (c : Int) : (netOf w rk hr).X h Y c ↔ c ∈ choose w h L := by
  have := (gc_house W hh).1.cong (Y := lst w Y) (Z := L) (fun c hc => by
    have ho : (netOf w rk hr).own h c := hc.imp B_iff.mpr S_iff.mpr
    rw [mem_lst, e c ho]
    exact ⟨fun q => q.2, fun q => ⟨own_C ho, q⟩⟩) c
  rw [this]
  exact ⟨fun q => q.2, fun q => ⟨hh, q⟩⟩
theorem mem_zip {f : Con → Bool} {cs : List Con} {c : Int} : c ∈ ((cs.zipIdx.filter fun q => f q.1).map fun q => (q.2 : Int)) ↔ (0 ≤ c ∧ c < (cs.length : Int)) ∧ ∃ k, cs[c.toNat]? = some k ∧ f k = true := by
  rw [List.mem_map]
  constructor
  · rintro ⟨⟨k, i⟩, h1, rfl⟩
    obtain ⟨h2, h3⟩ := List.mem_filter.mp h1
    have := List.mk_mem_zipIdx_iff_getElem?.mp h2
    have hl := (List.getElem?_eq_some_iff.mp this).1
    exact ⟨⟨by dsimp only; omega, by dsimp only; omega⟩, k, by dsimp only; rw [Int.toNat_natCast]; exact this, h3⟩
  · rintro ⟨h0, k, h1, h2⟩
    obtain ⟨n, rfl⟩ := Int.eq_ofNat_of_zero_le h0.1
    rw [Int.toNat_natCast] at h1
    exact ⟨(k, n), List.mem_filter.mpr ⟨List.mk_mem_zipIdx_iff_getElem?.mpr h1, h2⟩, rfl⟩
theorem buysOf_iff {h c : Int} : c ∈ buysOf w.cs h ↔ (netOf w rk hr).B h c := by
  unfold buysOf
  rw [mem_zip (f := fun k => decide (k.b = h))]
  constructor
  · rintro ⟨h0, k, h1, h2⟩
    refine ⟨h0, ?_⟩
    show buyOf w c = h
    unfold buyOf; rw [h1]; exact of_decide_eq_true h2
  · rintro ⟨h0, h2⟩
    obtain ⟨k, _, h1, _, h3⟩ := con_w h0
    exact ⟨h0, k, h1, decide_eq_true (h3.symm.trans h2)⟩
theorem sellsOf_iff {h c : Int} : c ∈ sellsOf w.cs h ↔ (netOf w rk hr).S h c := by
  unfold sellsOf
  rw [mem_zip (f := fun k => decide (k.s = h))]
  constructor
  · rintro ⟨h0, k, h1, h2⟩
    refine ⟨h0, ?_⟩
    show selOf w c = h
    unfold selOf; rw [h1]; exact of_decide_eq_true h2
  · rintro ⟨h0, h2⟩
    obtain ⟨k, _, h1, h3, _⟩ := con_w h0
    exact ⟨h0, k, h1, decide_eq_true (h3.symm.trans h2)⟩
theorem ownOf_iff {h c : Int} : c ∈ ownOf w.cs h ↔ (netOf w rk hr).own h c := by
  unfold ownOf
  rw [mem_zip (f := fun k => decide (h ∈ [k.s, k.b]))]
  constructor
  · rintro ⟨h0, k, h1, h2⟩
    have h2 := of_decide_eq_true h2
    simp only [List.mem_cons, List.not_mem_nil, or_false] at h2
    obtain ⟨k', _, h1', h3, h4⟩ := con_w h0
    rw [h1] at h1'
    cases h1'
    rcases h2 with q | q
    · exact .inr ⟨h0, by show selOf w c = h; rw [h3, q]⟩
    · exact .inl ⟨h0, by show buyOf w c = h; rw [h4, q]⟩
  · intro ho
    obtain ⟨k, _, h1, h3, h4⟩ := con_w (own_C ho)
    refine ⟨own_C ho, k, h1, decide_eq_true ?_⟩
    rcases ho with ⟨_, q⟩ | ⟨_, q⟩
    · have q : buyOf w c = h := q
      rw [← q, h4]; simp
    · have q : selOf w c = h := q
      rw [← q, h3]; simp
/-! ### networks -/
structure NetOk (w : Web) (net : List Int) : Prop where
  lt : net.Pairwise (· < ·)
  c : ∀ x ∈ net, CIx w x
theorem NetOk.nodup {net : List Int} (h : NetOk w net) : net.Nodup := h.lt.imp fun h => by omega
theorem sorted_eq {a b : List Int} (na : a.Nodup) (nb : b.Nodup) (pa : a.Pairwise (· ≤ ·)) (pb : b.Pairwise (· ≤ ·)) : a = b ↔ ∀ c, c ∈ a ↔ c ∈ b :=
  ⟨fun h c => by rw [h], fun h => List.Perm.eq_of_pairwise (le := (· ≤ ·)) (fun a b _ _ h1 h2 => by omega) pa pb ((List.perm_ext_iff_of_nodup na nb).mpr h)⟩
theorem mem_ownPart {h c : Int} {net : List Int} : c ∈ ownPart w h net ↔ c ∈ net ∧ (netOf w rk hr).own h c := by unfold ownPart; rw [List.mem_filter, decide_eq_true_iff, ownOf_iff (rk := rk) (hr := hr)]
theorem choose_own (W : WebOk w) {h : Int} (hh : HIx w h) {net L : List Int} (N : NetOk w net) : choose w h L = ownPart w h net ↔ ∀ c, c ∈ choose w h L ↔ (c ∈ net ∧ (netOf w rk hr).own h c) := by
  have n2 : (ownPart w h net).Nodup := N.nodup.filter _
  have p2 : (ownPart w h net).Pairwise (· ≤ ·) := (N.lt.filter _).imp fun h => by omega
  rw [sorted_eq ((gc_house W hh).1.nd L) n2 (isort_pw _) p2]
  exact forall_congr' fun c => by rw [mem_ownPart (rk := rk) (hr := hr)]
theorem firstDrop_none (net : List Int) : ∀ hs : List Int, firstDrop w net hs = none ↔ ∀ h ∈ hs, choose w h net = ownPart w h net
  | [] => by simp [firstDrop]
  | h :: hs => by
    rw [firstDrop]
    split
    · rename_i e
      rw [firstDrop_none net hs]; simp [e]
    · rename_i e
      simp [e]
theorem kept_iff (W : WebOk w) {net : List Int} (N : NetOk w net) : firstDropping w net = none ↔ (netOf w rk hr).Kept fun c => c ∈ net := by
  unfold firstDropping
  rw [firstDrop_none]
  constructor
  · intro h k c ho hc
    have hh := house_of W ho
    exact (X_list W hh (L := net) (fun _ _ => Iff.rfl) c).mpr (((choose_own (rk := rk) (hr := hr) W hh N).mp (h k (idxs_mem.mpr hh)) c).mpr ⟨hc, ho⟩)
  · intro h k hk
    have hh : HIx w k := idxs_mem.mp hk
    refine (choose_own (rk := rk) (hr := hr) W hh N).mpr fun c => ?_
    have e := X_list (rk := rk) (hr := hr) W hh (Y := fun c => c ∈ net) (L := net) (fun _ _ => Iff.rfl) c
    exact ⟨fun q => (ax W).sub k _ c (e.mpr q), fun q => e.mp (h k c q.2 q.1)⟩
theorem judgeGo_iff (net off asked : List Int) : ∀ hs : List Int, judgeGo w net off asked hs = true ↔ ∀ h ∈ hs, choose w h (offeredTo w h off asked) = ownPart w h net
  | [] => by simp [judgeGo]
  | h :: hs => by
    rw [judgeGo]
    split
    · rename_i e
      rw [judgeGo_iff net off asked hs]; simp [e]
    · rename_i e
      simp [e]
theorem offered_iff {h c : Int} {net off : List Int} : c ∈ offeredTo w h off (askedBehind w net off) ↔ (netOf w rk hr).V (fun c => c ∈ net) (fun c => c ∈ off) h c := by
  unfold offeredTo askedBehind
  rw [isort_mem, List.mem_append, List.mem_filter, List.mem_filter, buysOf_iff (rk := rk) (hr := hr), sellsOf_iff (rk := rk) (hr := hr), decide_eq_true_iff, decide_eq_true_iff, List.mem_filter, idxs_mem]
  unfold Net.V
  refine or_congr Iff.rfl ⟨fun q => ⟨q.1, ?_⟩, fun q => ⟨q.1, q.1.1, ?_⟩⟩
  · simpa using q.2.2
  · simpa using q.2
theorem judge_iff (W : WebOk w) {net off : List Int} (N : NetOk w net) : judge w net off = true ↔ (netOf w rk hr).Jdg (fun c => c ∈ net) (fun c => c ∈ off) := by
  unfold judge
  have e1 : ((net.map fun c => decide (c ∈ off)).all id = true) ↔ ∀ c, c ∈ net → c ∈ off := by simp
  unfold Net.Jdg
  split
  · rename_i h1
    rw [judgeGo_iff]
    have h1 := e1.mp h1
    constructor
    · intro h
      refine ⟨h1, fun k c => ?_⟩
      by_cases hh : HIx w k
      · rw [X_list W hh (L := offeredTo w k off (askedBehind w net off)) (fun c _ => offered_iff) c]
        exact (choose_own W hh N).mp (h k (idxs_mem.mpr hh)) c
      · exact ⟨fun q => (hh q.1).elim, fun q => (hh (house_of W q.2)).elim⟩
    · intro h k hk
      have hh : HIx w k := idxs_mem.mp hk
      refine (choose_own (rk := rk) (hr := hr) W hh N).mpr fun c => ?_
      rw [← X_list (rk := rk) (hr := hr) W hh (L := offeredTo w k off (askedBehind w net off)) (fun c _ => offered_iff) c]
      exact h.2 k c
  · rename_i h1
    exact ⟨fun z => (nomatch z), fun z => (h1 (e1.mpr z.1)).elim⟩
end
end N50
/-! text M8 -/
set_option maxHeartbeats 4000000
namespace N50
open PySem
section
variable {w : Web} {rk : Int → Nat} {hr : Rk w rk}
/-! ### the order of the houses -/
def Aft (w : Web) (h k : Int) : Prop := ∀ c ∈ w.cs, ¬ (c.b = h ∧ c.s = k)
theorem down_go (dn : Down w) : ∀ (n : Nat) (left order : List Int), left.length < n → left.Nodup → ∃ R, downGo w n order left = order ++ R ∧ R.Nodup ∧ (∀ h, h ∈ R ↔ h ∈ left) ∧ R.Pairwise (Aft w)
  | 0, left, order, h, _ => by omega
  | n + 1, left, order, h, nd => by
    unfold downGo
    split
    · rename_i e
      subst e
      exact ⟨[], by simp, List.nodup_nil, fun _ => Iff.rfl, List.Pairwise.nil⟩
    · rename_i e
      have l := down_less dn e
      obtain ⟨R, r1, r2, r3, r4⟩ := down_go dn n (left.filter fun h => decide (h ∈ soldTo w left)) (order ++ left.filter fun h => !decide (h ∈ soldTo w left)) (by omega) (nd.filter _)
      have free : ∀ h, h ∈ (left.filter fun h => !decide (h ∈ soldTo w left)) ↔ h ∈ left ∧ h ∉ soldTo w left := fun h => by simp
      have rest : ∀ h, h ∈ R ↔ h ∈ left ∧ h ∈ soldTo w left := fun h => by rw [r3]; simp
      have aft : ∀ h ∈ (left.filter fun h => !decide (h ∈ soldTo w left)), ∀ k ∈ left, Aft w h k := fun h hh k hk c hc z => ((free h).mp hh).2 (soldTo_mem.mpr ⟨c, hc, by rw [z.2]; exact hk, z.1⟩)
      refine ⟨_ ++ R, by rw [r1, List.append_assoc], List.nodup_append.mpr ⟨nd.filter _, r2, fun x hx y hy z => ?_⟩, fun h => ?_, List.pairwise_append.mpr ⟨?_, r4, fun h hh k hk => aft h hh k ((rest k).mp hk).1⟩⟩
      · rw [z] at hx; exact ((free y).mp hx).2 ((rest y).mp hy).2
      · rw [List.mem_append, free, rest]
        by_cases q : h ∈ soldTo w left <;> simp [q]
      · exact List.Pairwise.imp_of_mem (R := fun _ _ => True) (fun {a b} ha hb _ => aft a ha b ((free b).mp hb).1) (List.pairwise_of_forall fun _ _ => trivial)
theorem houses_order (dn : Down w) : (housesDown w).Nodup ∧ (∀ h, h ∈ housesDown w ↔ HIx w h) ∧ (housesDown w).Pairwise (Aft w) := by
  obtain ⟨R, r1, r2, r3, r4⟩ := down_go dn (w.hs.length + 1) (idxs w.hs.length) [] (by rw [idxs_len]; omega) (idxs_nodup _)
  unfold housesDown
  rw [r1, List.nil_append]
  exact ⟨r2, fun h => by rw [r3, idxs_mem]; exact Iff.rfl, r4⟩
/-! ### the told offers -/
theorem mem_tell {net fo : List Int} {h c : Int} : c ∈ tellHouse w net fo h ↔ c ∈ fo ∨ (c ∈ sellsOf w.cs h ∧ openOne w net (heldOf w net fo h) h c = true) := by
  unfold tellHouse; rw [List.mem_append, List.mem_filter]
theorem tell_fold (hr : Rk w rk) (net : List Int) : ∀ (l fo : List Int), l.Nodup → l.Pairwise (Aft w) →
    (∀ c, CIx w c → selOf w c ∉ l → (c ∈ l.foldl (tellHouse w net) fo ↔ c ∈ fo)) ∧ ∀ h ∈ l, ∀ c, (netOf w rk hr).S h c → (c ∈ l.foldl (tellHouse w net) fo ↔ c ∈ fo ∨ openOne w net (heldOf w net (l.foldl (tellHouse w net) fo) h) h c = true)
  | [], fo, _, _ => ⟨fun c _ _ => Iff.rfl, fun h hh => by simp at hh⟩
  | h :: t, fo, nd, pw => by
    obtain ⟨n1, n2⟩ := List.nodup_cons.mp nd
    obtain ⟨p1, p2⟩ := List.pairwise_cons.mp pw
    obtain ⟨ia, ib⟩ := tell_fold hr net t (tellHouse w net fo h) n2 p2
    rw [List.foldl_cons]
    have notS : ∀ c, selOf w c ≠ h → (c ∈ tellHouse w net fo h ↔ c ∈ fo) := fun c hc => by
      rw [mem_tell, sellsOf_iff (rk := rk) (hr := hr)]
      exact ⟨fun q => q.elim id fun q => (hc q.1.2).elim, .inl⟩
    have ka : ∀ c, CIx w c → selOf w c ∉ h :: t → (c ∈ t.foldl (tellHouse w net) (tellHouse w net fo h) ↔ c ∈ fo) := fun c hc hn => by
      rw [List.mem_cons, not_or] at hn
      rw [ia c hc hn.2, notS c hn.1]
    refine ⟨ka, fun k hk c hc => ?_⟩
    rcases List.mem_cons.mp hk with q | q
    · subst q
      have hs : selOf w c = k := hc.2
      rw [ia c hc.1 (by rw [hs]; exact n1), mem_tell, sellsOf_iff (rk := rk) (hr := hr)]
      have e : heldOf w net fo k = heldOf w net (t.foldl (tellHouse w net) (tellHouse w net fo k)) k := by
        unfold heldOf
        congr 1
        refine List.filter_congr fun x hx => ?_
        have hb := buysOf_iff (rk := rk) (hr := hr).mp hx
        rw [Bool.eq_iff_iff, decide_eq_true_iff, decide_eq_true_iff, ka x hb.1]
        intro z
        obtain ⟨kk, k1, _, k3, k4⟩ := con_w hb.1
        have e4 : kk.b = k := k4.symm.trans hb.2
        rcases List.mem_cons.mp z with z | z
        · have := hr kk k1
          rw [← k3, z, e4] at this; omega
        · exact p1 _ z kk k1 ⟨e4, k3.symm⟩
      rw [e]
      exact ⟨fun q => q.imp id fun q => q.2, fun q => q.imp id fun q => ⟨hc, q⟩⟩
    · rw [ib k q c hc]
      have hs : selOf w c = k := hc.2
      rw [notS c fun z => n1 (by rw [← z, hs]; exact q)]
theorem tell_C (net : List Int) : ∀ (l fo : List Int), (∀ c ∈ fo, CIx w c) → ∀ c ∈ l.foldl (tellHouse w net) fo, CIx w c
  | [], fo, h => h
  | k :: t, fo, h => by
    rw [List.foldl_cons]
    refine tell_C net t _ fun c hc => ?_
    rcases mem_tell.mp hc with q | q
    · exact h c q
    · have := q.1
      unfold sellsOf at this
      exact ((mem_zip (f := fun q => decide (q.s = k))).mp this).1
theorem told_ok (W : WebOk w) {net : List Int} (N : NetOk w net) : (netOf w rk hr).Told (fun c => c ∈ net) fun c => c ∈ toldOffers w net := by
  obtain ⟨o1, o2, o3⟩ := houses_order W.dn
  obtain ⟨fa, fb⟩ := tell_fold hr net (housesDown w) net o1 o3
  have hm : ∀ c, c ∈ toldOffers w net ↔ c ∈ (housesDown w).foldl (tellHouse w net) net := fun c => isort_mem
  refine ⟨fun c hc => tell_C net _ net N.c c ((hm c).mp hc), fun c hc => ?_⟩
  obtain ⟨k, k1, _, k2, k3⟩ := con_w hc
  have hh : HIx w (selOf w c) := by rw [k2]; exact (W.se k k1).1
  have hS : (netOf w rk hr).S (selOf w c) c := ⟨hc, rfl⟩
  show c ∈ toldOffers w net ↔ (c ∈ net ∨ (netOf w rk hr).X (selOf w c) (fun x => ((netOf w rk hr).B (selOf w c) x ∧ x ∈ toldOffers w net) ∨ ((netOf w rk hr).S (selOf w c) x ∧ x ∈ net) ∨ x = c) c)
  rw [hm c, fb _ ((o2 _).mpr hh) c hS]
  rw [X_list W hh (L := isort (heldOf w net ((housesDown w).foldl (tellHouse w net) net) (selOf w c) ++ [c])) (fun x _ => ?_) c]
  · unfold openOne
    rw [Bool.and_eq_true, Bool.not_eq_true', decide_eq_false_iff_not, decide_eq_true_iff]
    by_cases q : c ∈ net <;> simp [q]
  · unfold heldOf
    rw [isort_mem, List.mem_append, List.mem_append, List.mem_filter, List.mem_filter, buysOf_iff (rk := rk) (hr := hr), sellsOf_iff (rk := rk) (hr := hr), decide_eq_true_iff, decide_eq_true_iff, List.mem_singleton, hm, or_assoc]
/-! ### the search of a gaining chain -/
inductive Rc (M : Net) (N : Int → Prop) : Int → Prop
  | start (c : Int) : M.Out N c → M.X (M.sel c) (Net.P1 N c) c → Rc M N c
  | step (c d : Int) : Rc M N c → M.Out N d → M.sel d = M.buy c → M.X (M.buy c) (Net.P2 N c d) c → M.X (M.buy c) (Net.P2 N c d) d → Rc M N d
theorem Rc.out {M : Net} {N : Int → Prop} {c : Int} (h : Rc M N c) : M.Out N c := by cases h <;> assumption
theorem path_iff {M : Net} {N : Int → Prop} : M.Path N ↔ ∃ e, Rc M N e ∧ M.X (M.buy e) (Net.P1 N e) e := by
  constructor
  · rintro ⟨c, oc, xc, t⟩
    have key : ∀ c, M.Tl N c → Rc M N c → ∃ e, Rc M N e ∧ M.X (M.buy e) (Net.P1 N e) e := by
      intro c t
      induction t with
      | ends c o x => exact fun h => ⟨c, h, x⟩
      | step c d oc od e x1 x2 t ih => exact fun h => ih (.step c d h od e x1 x2)
    exact key c t (.start c oc xc)
  · rintro ⟨e, h, x⟩
    have key : ∀ e, Rc M N e → M.Tl N e → M.Path N := by
      intro e h
      induction h with
      | start c o x => exact fun t => ⟨c, o, x, t⟩
      | step c d hc od e x1 x2 ih => exact fun t => ih (.step c d hc.out od e x1 x2 t)
    exact key e h (.ends e h.out x)
theorem takes_iff {net cs : List Int} {h : Int} : takes w net h cs = true ↔ ∀ c ∈ cs, c ∈ choose w h (joined net cs) := by unfold takes; simp
variable {net : List Int}
theorem out_iff {c : Int} : c ∈ outsideOf w net ↔ (netOf w rk hr).Out (fun c => c ∈ net) c := by
  unfold outsideOf
  rw [List.mem_filter, idxs_mem]
  simp only [Bool.not_eq_true', decide_eq_false_iff_not]
  exact Iff.rfl
theorem buy_h (W : WebOk w) {c : Int} (h : CIx w c) : HIx w (buyOf w c) := by
  obtain ⟨k, k1, _, k2, k3⟩ := con_w h
  rw [k3]; exact (W.se k k1).2
theorem sel_h (W : WebOk w) {c : Int} (h : CIx w c) : HIx w (selOf w c) := by
  obtain ⟨k, k1, _, k2, k3⟩ := con_w h
  rw [k2]; exact (W.se k k1).1
theorem begins_iff (W : WebOk w) {c : Int} (h : CIx w c) : begins w net c = true ↔ (netOf w rk hr).X (selOf w c) (Net.P1 (fun c => c ∈ net) c) c := by
  unfold begins
  rw [takes_iff, X_list W (sel_h W h) (L := joined net [c]) (fun x _ => by rw [joined_mem, List.mem_singleton]; exact Iff.rfl) c]
  simp
theorem ends_iff (W : WebOk w) {c : Int} (h : CIx w c) : ends w net c = true ↔ (netOf w rk hr).X (buyOf w c) (Net.P1 (fun c => c ∈ net) c) c := by
  unfold ends
  rw [takes_iff, X_list W (buy_h W h) (L := joined net [c]) (fun x _ => by rw [joined_mem, List.mem_singleton]; exact Iff.rfl) c]
  simp
theorem goes_iff (W : WebOk w) {c d : Int} (h : CIx w c) : goesOn w net c d = true ↔ selOf w d = buyOf w c ∧ (netOf w rk hr).X (buyOf w c) (Net.P2 (fun c => c ∈ net) c d) c ∧ (netOf w rk hr).X (buyOf w c) (Net.P2 (fun c => c ∈ net) c d) d := by
  unfold goesOn
  have e : ∀ x, (netOf w rk hr).own (buyOf w c) x → (x ∈ joined net (isort [c, d]) ↔ Net.P2 (fun c => c ∈ net) c d x) := fun x _ => by
    rw [joined_mem, isort_mem]; simp [Net.P2]
  rw [Bool.and_eq_true, decide_eq_true_iff, takes_iff, X_list W (buy_h W h) e c, X_list W (buy_h W h) e d]
  refine and_congr Iff.rfl ⟨fun q => ⟨q c (isort_mem.mpr (by simp)), q d (isort_mem.mpr (by simp))⟩, fun q x hx => ?_⟩
  have hx := isort_mem.mp hx
  simp only [List.mem_cons, List.not_mem_nil, or_false] at hx
  rcases hx with z | z <;> rw [z]
  · exact q.1
  · exact q.2
structure Gr (w : Web) (net : List Int) (R : Int → Prop) (R0 : List Int) (q : List Int × List (List Int)) : Prop where
  sub : ∀ x ∈ R0, x ∈ q.1
  news : ∀ x ∈ q.1, x ∈ R0 ∨ ∃ r ∈ q.2, lastOf r = x
  rc : ∀ r ∈ q.2, R (lastOf r) ∧ lastOf r ∈ q.1
  ct : q.2.length + cnt (outsideOf w net) q.1 ≤ cnt (outsideOf w net) R0
theorem Gr.one {R : Int → Prop} {R0 : List Int} {q : List Int × List (List Int)} (G : Gr w net R R0 q) {row : List Int} {c : Int} (hc : c ∈ outsideOf w net) (hs : goesOn w net (lastOf row) c = true → R c) :
    Gr w net R R0 (growOne w net row q c) ∧ (∀ x ∈ q.1, x ∈ (growOne w net row q c).1) ∧ (goesOn w net (lastOf row) c = true → c ∈ (growOne w net row q c).1) := by
  unfold growOne
  split
  · rename_i h
    rw [Bool.and_eq_true] at h
    have h1 : c ∉ q.1 := by simpa using h.1
    refine ⟨⟨fun x hx => List.mem_append.mpr (.inl (G.sub x hx)), fun x hx => ?_, fun r hr => ?_, ?_⟩, fun x hx => List.mem_append.mpr (.inl hx), fun _ => by simp⟩
    · rcases List.mem_append.mp hx with z | z
      · exact (G.news x z).imp id fun ⟨r, h1, h2⟩ => ⟨r, List.mem_append.mpr (.inl h1), h2⟩
      · exact .inr ⟨row ++ [c], by simp, by rw [last_app, List.mem_singleton.mp z]⟩
    · rcases List.mem_append.mp hr with z | z
      · exact ⟨(G.rc r z).1, List.mem_append.mpr (.inl (G.rc r z).2)⟩
      · rw [List.mem_singleton.mp z, last_app]; exact ⟨hs h.2, by simp⟩
    · have := cnt_add hc h1
      have := G.ct
      dsimp only
      rw [List.length_append, List.length_singleton]; omega
  · rename_i h
    refine ⟨G, fun _ h => h, fun z => ?_⟩
    rw [z, Bool.and_true, Bool.not_eq_true', decide_eq_false_iff_not] at h
    exact Classical.not_not.mp h
theorem Gr.row {R : Int → Prop} {R0 : List Int} {row : List Int} : ∀ (cs : List Int) (q : List Int × List (List Int)), Gr w net R R0 q → (∀ c ∈ cs, c ∈ outsideOf w net ∧ (goesOn w net (lastOf row) c = true → R c)) →
    Gr w net R R0 (growRow w net row cs q) ∧ (∀ x ∈ q.1, x ∈ (growRow w net row cs q).1) ∧ ∀ c ∈ cs, goesOn w net (lastOf row) c = true → c ∈ (growRow w net row cs q).1
  | [], q, G, _ => ⟨G, fun _ h => h, fun _ h => by simp at h⟩
  | c :: cs, q, G, h => by
    obtain ⟨g1, g2, g3⟩ := G.one (row := row) (h c List.mem_cons_self).1 (h c List.mem_cons_self).2
    obtain ⟨i1, i2, i3⟩ := Gr.row cs _ g1 fun x hx => h x (List.mem_cons_of_mem _ hx)
    rw [growRow]
    refine ⟨i1, fun x hx => i2 x (g2 x hx), fun x hx hg => ?_⟩
    rcases List.mem_cons.mp hx with z | z
    · rw [z] at hg ⊢; exact i2 c (g3 hg)
    · exact i3 x z hg
theorem Gr.all {R : Int → Prop} {R0 : List Int} : ∀ (rows : List (List Int)) (q : List Int × List (List Int)), Gr w net R R0 q → (∀ row ∈ rows, ∀ c ∈ outsideOf w net, goesOn w net (lastOf row) c = true → R c) →
    Gr w net R R0 (growAll w net (outsideOf w net) rows q) ∧ (∀ x ∈ q.1, x ∈ (growAll w net (outsideOf w net) rows q).1) ∧ ∀ row ∈ rows, ∀ c ∈ outsideOf w net, goesOn w net (lastOf row) c = true → c ∈ (growAll w net (outsideOf w net) rows q).1
  | [], q, G, _ => ⟨G, fun _ h => h, fun _ h => by simp at h⟩
  | row :: rows, q, G, h => by
    obtain ⟨g1, g2, g3⟩ := G.row (row := row) (outsideOf w net) q fun c hc => ⟨hc, h row List.mem_cons_self c hc⟩
    obtain ⟨i1, i2, i3⟩ := Gr.all rows _ g1 fun r hr => h r (List.mem_cons_of_mem _ hr)
    rw [growAll]
    refine ⟨i1, fun x hx => i2 x (g2 x hx), fun r hr c hc hg => ?_⟩
    rcases List.mem_cons.mp hr with z | z
    · rw [z] at hg; exact i2 c (g3 c hc hg)
    · exact i3 r z c hc hg
theorem firstEnd_none : ∀ rows : List (List Int), firstEnd w net rows = none → ∀ r ∈ rows, ends w net (lastOf r) ≠ true
  | [], _, r, h => by simp at h
  | r :: rows, h, x, hx => by
    rw [firstEnd] at h
    split at h
    · cases h
    · rename_i z
      rcases List.mem_cons.mp hx with y | y
      · rw [y]; exact z
      · exact firstEnd_none rows h x y
theorem firstEnd_some : ∀ (rows : List (List Int)) (r : List Int), firstEnd w net rows = some r → r ∈ rows ∧ ends w net (lastOf r) = true
  | [], r, h => by cases h
  | x :: rows, r, h => by
    rw [firstEnd] at h
    split at h
    · rename_i z
      cases h
      exact ⟨List.mem_cons_self, z⟩
    · have := firstEnd_some rows r h
      exact ⟨List.mem_cons_of_mem _ this.1, this.2⟩
structure CInv (w : Web) (net : List Int) (R : Int → Prop) (re : List Int) (rows : List (List Int)) : Prop where
  a : ∀ r ∈ rows, R (lastOf r) ∧ lastOf r ∈ re
  b : ∀ c ∈ re, (∃ r ∈ rows, lastOf r = c) ∨ (ends w net c ≠ true ∧ ∀ d ∈ outsideOf w net, goesOn w net c d = true → d ∈ re)
theorem chainGo_iff {R : Int → Prop} (hs : ∀ c d, R c → d ∈ outsideOf w net → goesOn w net c d = true → R d) (hi : ∀ re : List Int, (∀ c ∈ re, ∀ d ∈ outsideOf w net, goesOn w net c d = true → d ∈ re) → (∀ c ∈ outsideOf w net, begins w net c = true → c ∈ re) → ∀ e, R e → e ∈ re) :
    ∀ (n : Nat) (re : List Int) (rows : List (List Int)), CInv w net R re rows → (∀ c ∈ outsideOf w net, begins w net c = true → c ∈ re) → (cnt (outsideOf w net) re + 2 ≤ n ∨ (rows = [] ∧ 1 ≤ n)) → (chainGo w net (outsideOf w net) n re rows = none ↔ ¬ ∃ e, R e ∧ ends w net e = true)
  | 0, re, rows, I, hb, hn => by omega
  | n + 1, re, rows, I, hb, hn => by
    rw [chainGo]
    split
    · rename_i h0
      subst h0
      refine ⟨fun _ ⟨e, e1, e2⟩ => ?_, fun _ => rfl⟩
      have cl : ∀ c ∈ re, ends w net c ≠ true ∧ ∀ d ∈ outsideOf w net, goesOn w net c d = true → d ∈ re := fun c hc => (I.b c hc).resolve_left fun ⟨r, h, _⟩ => by simp at h
      exact (cl e (hi re (fun c hc => (cl c hc).2) hb e e1)).1 e2
    · rename_i h0
      split
      · rename_i r hf
        obtain ⟨f1, f2⟩ := firstEnd_some rows r hf
        exact ⟨fun z => (nomatch z), fun z => (z ⟨_, (I.a r f1).1, f2⟩).elim⟩
      · rename_i hf
        have ne := firstEnd_none rows hf
        have G0 : Gr w net R re (re, []) := ⟨fun _ h => h, fun _ h => .inl h, fun _ h => by simp at h, by simp⟩
        obtain ⟨g1, g2, g3⟩ := G0.all rows _ fun row hrow c hc hg => hs _ c (I.a row hrow).1 hc hg
        generalize growAll w net (outsideOf w net) rows (re, []) = q at g1 g2 g3
        refine chainGo_iff hs hi n q.1 q.2 ⟨g1.rc, fun c hc => ?_⟩ (fun c hc hbg => g2 c (hb c hc hbg)) ?_
        · rcases g1.news c hc with z | z
          · right
            rcases I.b c z with ⟨r, y1, y2⟩ | y
            · rw [← y2]; exact ⟨ne r y1, fun d hd hg => g3 r y1 d hd hg⟩
            · exact ⟨y.1, fun d hd hg => g2 d (y.2 d hd hg)⟩
          · exact .inl z
        · have hn := hn.resolve_right fun z => h0 z.1
          have ct := g1.ct
          by_cases z : q.2 = []
          · exact .inr ⟨z, by omega⟩
          · have : 0 < q.2.length := List.length_pos_iff.mpr z
            exact .inl (by omega)
theorem chain_iff (W : WebOk w) : gainingChain w net = none ↔ ¬ (netOf w rk hr).Path fun c => c ∈ net := by
  rw [path_iff]
  have hs : ∀ c d, Rc (netOf w rk hr) (fun c => c ∈ net) c → d ∈ outsideOf w net → goesOn w net c d = true → Rc (netOf w rk hr) (fun c => c ∈ net) d := fun c d hc hd hg => by
    obtain ⟨g1, g2, g3⟩ := (goes_iff (rk := rk) (hr := hr) W hc.out.1).mp hg
    exact .step c d hc (out_iff.mp hd) g1 g2 g3
  have hi : ∀ re : List Int, (∀ c ∈ re, ∀ d ∈ outsideOf w net, goesOn w net c d = true → d ∈ re) → (∀ c ∈ outsideOf w net, begins w net c = true → c ∈ re) → ∀ e, Rc (netOf w rk hr) (fun c => c ∈ net) e → e ∈ re := by
    intro re h1 h2 e he
    induction he with
    | start c o x => exact h2 c (out_iff.mpr o) ((begins_iff W o.1).mpr x)
    | step c d hc od e x1 x2 ih => exact h1 c ih d (out_iff.mpr od) ((goes_iff W hc.out.1).mpr ⟨e, x1, x2⟩)
  have l1 : ∀ c : Int, lastOf [c] = c := fun c => by unfold lastOf; simp
  have key := chainGo_iff (w := w) (net := net) hs hi (w.cs.length + 2) ((((outsideOf w net).filter fun c => begins w net c).map fun c => [c]).map lastOf) (((outsideOf w net).filter fun c => begins w net c).map fun c => [c]) ⟨fun r hr' => ?_, fun c hc => ?_⟩ (fun c hc hb => ?_) ?_
  · show chainGo _ _ _ _ _ _ = none ↔ _
    rw [key]
    refine not_congr ⟨fun ⟨e, e1, e2⟩ => ⟨e, e1, (ends_iff W e1.out.1).mp e2⟩, fun ⟨e, e1, e2⟩ => ⟨e, e1, (ends_iff W e1.out.1).mpr e2⟩⟩
  · refine ⟨?_, List.mem_map.mpr ⟨r, hr', rfl⟩⟩
    obtain ⟨c, hc, rfl⟩ := List.mem_map.mp hr'
    obtain ⟨c1, c2⟩ := List.mem_filter.mp hc
    rw [l1]
    have o := out_iff (rk := rk) (hr := hr).mp c1
    exact .start c o ((begins_iff W o.1).mp c2)
  · obtain ⟨r, h1, h2⟩ := List.mem_map.mp hc
    exact .inl ⟨r, h1, h2⟩
  · exact List.mem_map.mpr ⟨[c], List.mem_map.mpr ⟨c, List.mem_filter.mpr ⟨hc, hb⟩, rfl⟩, l1 c⟩
  · left
    have h1 := cnt_le (outsideOf w net) ((((outsideOf w net).filter fun c => begins w net c).map fun c => [c]).map lastOf)
    have h2 : (outsideOf w net).length ≤ w.cs.length := by
      unfold outsideOf
      exact Nat.le_trans (List.length_filter_le ..) (by rw [idxs_len]; omega)
    omega
end
end N50
/-! text M9 -/
set_option maxHeartbeats 4000000
namespace N50
open PySem
/-! ### masks -/
theorem bit1 : ∀ m : Nat, m < 32 → lBits (lSet (m : Int)) = (m : Int) ∧ (lSet (m : Int)).all (fun c => decide (c < 5)) = true := by decide +kernel
theorem bit2 : ∀ m : Nat, m < 32 → ∀ k : Nat, k < 32 → lSet (Builtin.bitAnd m k) = (lSet m).filter (fun c => decide (c ∈ lSet k)) ∧ (0 ≤ Builtin.bitAnd (m : Int) k ∧ Builtin.bitAnd (m : Int) k ≤ k) ∧ (0 ≤ Builtin.bitOr (m : Int) k ∧ Builtin.bitOr (m : Int) k < 32) ∧ lSet (Builtin.bitOr m k) = (idxs 12).filter (fun c => decide (c ∈ lSet m) || decide (c ∈ lSet k)) := by decide +kernel
theorem bit3 : ∀ n : Nat, n < 6 → ∀ m : Nat, m < 2 ^ n → (m : Int) < 32 ∧ lSet ((2 : Int) ^ n - 1 - m) = (idxs n).filter (fun c => !decide (c ∈ lSet m)) ∧ (lSet (m : Int)).all (fun c => decide (c < (n : Int))) = true := by decide +kernel
theorem bit4 : ∀ n : Nat, n < 6 → ∀ m : Nat, m < 32 → (lSet (m : Int)).all (fun c => decide (c < (n : Int))) = true → m < 2 ^ n := by decide +kernel
theorem bit5 : ∀ bs : Bool × Bool × Bool × Bool × Bool, ∃ m : Nat, m < 32 ∧ (idxs 5).filter (fun c => if c = 0 then bs.1 else if c = 1 then bs.2.1 else if c = 2 then bs.2.2.1 else if c = 3 then bs.2.2.2.1 else bs.2.2.2.2) = lSet (m : Int) := by
  rintro ⟨a, b, c, d, e⟩
  refine ⟨a.toNat + 2 * b.toNat + 4 * c.toNat + 8 * d.toNat + 16 * e.toNat, ?_, ?_⟩ <;> revert a b c d e <;> decide +kernel
end N50
/-! text M10 -/
set_option maxHeartbeats 4000000
namespace N50
open PySem Classical
theorem nat_of {m : Int} (h : 0 ≤ m ∧ m < 32) : ∃ k : Nat, k < 32 ∧ m = k := by
  obtain ⟨k, rfl⟩ := Int.eq_ofNat_of_zero_le h.1
  exact ⟨k, by omega, rfl⟩
theorem bits_set {m : Int} (h : 0 ≤ m ∧ m < 32) : lBits (lSet m) = m := by
  obtain ⟨k, hk, rfl⟩ := nat_of h
  exact (bit1 k hk).1
theorem set_inj {m k : Int} (h : 0 ≤ m ∧ m < 32) (h2 : 0 ≤ k ∧ k < 32) (e : lSet m = lSet k) : m = k := by rw [← bits_set h, ← bits_set h2, e]
theorem set_and {m k c : Int} (h : 0 ≤ m ∧ m < 32) (h2 : 0 ≤ k ∧ k < 32) : c ∈ lSet (Builtin.bitAnd m k) ↔ c ∈ lSet m ∧ c ∈ lSet k := by
  obtain ⟨a, ha, rfl⟩ := nat_of h
  obtain ⟨b, hb, rfl⟩ := nat_of h2
  rw [(bit2 a ha b hb).1, List.mem_filter, decide_eq_true_iff]
theorem and_b {m k : Int} (h : 0 ≤ m ∧ m < 32) (h2 : 0 ≤ k ∧ k < 32) : 0 ≤ Builtin.bitAnd m k ∧ Builtin.bitAnd m k ≤ k := by
  obtain ⟨a, ha, rfl⟩ := nat_of h
  obtain ⟨b, hb, rfl⟩ := nat_of h2
  exact (bit2 a ha b hb).2.1
theorem or_b {m k : Int} (h : 0 ≤ m ∧ m < 32) (h2 : 0 ≤ k ∧ k < 32) : 0 ≤ Builtin.bitOr m k ∧ Builtin.bitOr m k < 32 := by
  obtain ⟨a, ha, rfl⟩ := nat_of h
  obtain ⟨b, hb, rfl⟩ := nat_of h2
  exact (bit2 a ha b hb).2.2.1
theorem set_or {m k c : Int} (h : 0 ≤ m ∧ m < 32) (h2 : 0 ≤ k ∧ k < 32) : c ∈ lSet (Builtin.bitOr m k) ↔ c ∈ lSet m ∨ c ∈ lSet k := by
  obtain ⟨a, ha, rfl⟩ := nat_of h
  obtain ⟨b, hb, rfl⟩ := nat_of h2
  rw [(bit2 a ha b hb).2.2.2, List.mem_filter, Bool.or_eq_true, decide_eq_true_iff, decide_eq_true_iff]
  refine ⟨fun q => q.2, fun q => ⟨?_, q⟩⟩
  rcases q with q | q <;> exact (List.mem_filter.mp q).1
theorem lSet_lt5 {m : Int} (h : 0 ≤ m ∧ m < 32) : ∀ c ∈ lSet m, 0 ≤ c ∧ c < 5 := fun c hc => by
  obtain ⟨a, ha, rfl⟩ := nat_of h
  exact ⟨(lSet_lt hc).1, of_decide_eq_true (List.all_eq_true.mp (bit1 a ha).2 c hc)⟩
theorem lSet_sorted (m : Int) : (lSet m).Pairwise (· < ·) := (idxs_lt 12).filter _
/-- every sorted list of small numbers is the set of a mask -/
theorem of_mask {l : List Int} (s : l.Pairwise (· < ·)) (h : ∀ c ∈ l, 0 ≤ c ∧ c < 5) : ∃ m : Int, (0 ≤ m ∧ m < 32) ∧ l = lSet m := by
  obtain ⟨m, h1, h2⟩ := bit5 (decide ((0 : Int) ∈ l), decide ((1 : Int) ∈ l), decide ((2 : Int) ∈ l), decide ((3 : Int) ∈ l), decide ((4 : Int) ∈ l))
  refine ⟨m, by omega, ?_⟩
  rw [← h2]
  refine List.Perm.eq_of_pairwise (le := (· < ·)) (fun a b _ _ h1 h2 => by omega) s ((idxs_lt 5).filter _) ((List.perm_ext_iff_of_nodup (s.imp fun h => by omega) ((idxs_nodup 5).filter _)).mpr fun c => ?_)
  rw [List.mem_filter, idxs_mem]
  have key : 0 ≤ c → c < 5 → (if c = 0 then decide ((0 : Int) ∈ l) else if c = 1 then decide ((1 : Int) ∈ l) else if c = 2 then decide ((2 : Int) ∈ l) else if c = 3 then decide ((3 : Int) ∈ l) else decide ((4 : Int) ∈ l)) = decide (c ∈ l) := fun a b => by
    rcases (by omega : c = 0 ∨ c = 1 ∨ c = 2 ∨ c = 3 ∨ c = 4) with rfl | rfl | rfl | rfl | rfl <;> simp
  constructor
  · intro hc
    have hr := h c hc
    refine ⟨by omega, ?_⟩
    dsimp only
    rw [key hr.1 hr.2]; exact decide_eq_true hc
  · rintro ⟨hr, q⟩
    dsimp only at q
    rw [key hr.1 (by omega)] at q
    exact of_decide_eq_true q
theorem set_eq {l : List Int} (s : l.Pairwise (· < ·)) (h : ∀ c ∈ l, 0 ≤ c ∧ c < 5) : (0 ≤ lBits l ∧ lBits l < 32) ∧ lSet (lBits l) = l := by
  obtain ⟨m, h1, h2⟩ := of_mask s h
  rw [h2, bits_set h1]
  exact ⟨h1, rfl⟩
/-! ### the dicts of the plan -/
theorem lookD_app (kvs : List (Int × Int)) (k v k' : Int) : lookD (kvs ++ [(k, v)]) k' = match lookD kvs k' with | some x => some x | none => if k = k' then some v else none := by
  induction kvs with
  | nil => rfl
  | cons p r ih =>
    rw [List.cons_append, lookD, lookD]
    split
    · rfl
    · exact ih
theorem lookD_none {kvs : List (Int × Int)} {k : Int} (h : (kvs.any fun p => decide (p.1 = k)) = false) : lookD kvs k = none := by
  induction kvs with
  | nil => rfl
  | cons p r ih =>
    rw [List.any_cons, Bool.or_eq_false_iff] at h
    rw [lookD, if_neg (by simpa using h.1)]
    exact ih h.2
theorem lookD_put (kvs : List (Int × Int)) (k v k' : Int) : lookD (putD kvs k v) k' = if k = k' then some v else lookD kvs k' := by
  unfold putD
  split
  · rename_i h
    induction kvs with
    | nil => simp at h
    | cons p r ih =>
      rw [List.map_cons]
      by_cases hp : p.1 = k
      · rw [if_pos hp, lookD]
        by_cases hk : k = k'
        · rw [if_pos (by dsimp only; omega), if_pos hk]
        · rw [if_neg (by dsimp only; omega), if_neg hk, lookD, if_neg (by omega)]
          by_cases ha : (r.any fun p => decide (p.1 = k)) = true
          · rw [ih ha, if_neg hk]
          · have e : r.map (fun p => if p.1 = k then (p.1, v) else p) = r := by
              conv => rhs; rw [← List.map_id r]
              refine List.map_congr_left fun q hq => if_neg fun z => ha (List.any_eq_true.mpr ⟨q, hq, decide_eq_true z⟩)
            rw [e]
      · rw [if_neg hp, lookD, lookD]
        have ha : (r.any fun p => decide (p.1 = k)) = true := by
          rw [List.any_cons, Bool.or_eq_true] at h
          exact h.resolve_left fun z => hp (of_decide_eq_true z)
        by_cases hq : p.1 = k'
        · rw [if_pos hq, if_pos hq, if_neg (by omega)]
        · rw [if_neg hq, if_neg hq]
          exact ih ha
  · rename_i h
    rw [lookD_app]
    by_cases hk : k = k'
    · rw [if_pos hk, if_pos hk, ← hk, lookD_none (by rw [Bool.not_eq_true] at h; exact h)]
    · rw [if_neg hk, if_neg hk]
      cases lookD kvs k' <;> rfl
theorem fold_look (key val : List Int → Int) {k v : Int} : ∀ (offs : List (List Int)) (kvs : List (Int × Int)), (∀ o ∈ offs, key o = k → val o = v) → ((∃ o ∈ offs, key o = k) ∨ lookD kvs k = some v) → lookD (offs.foldl (fun kvs o => putD kvs (key o) (val o)) kvs) k = some v
  | [], kvs, _, h => h.resolve_left fun ⟨o, h, _⟩ => by simp at h
  | o :: offs, kvs, h1, h2 => by
    rw [List.foldl_cons]
    refine fold_look key val offs _ (fun x hx => h1 x (List.mem_cons_of_mem _ hx)) ?_
    rw [lookD_put]
    by_cases e : key o = k
    · right; rw [if_pos e, h1 o List.mem_cons_self e]
    · rw [if_neg e]
      refine h2.imp (fun ⟨x, x1, x2⟩ => ?_) id
      rcases List.mem_cons.mp x1 with z | z
      · rw [z] at x2; exact (e x2).elim
      · exact ⟨x, z, x2⟩
theorem subsF_sub : ∀ (cs : List Int) (acc : List (List Int)) (r : List Int), r ∈ cs.foldl (fun fo c => fo ++ fo.map fun r => r ++ [c]) acc → ∃ r0 ∈ acc, ∃ t : List Int, t.Sublist cs ∧ r = r0 ++ t
  | [], acc, r, h => ⟨r, h, [], .slnil, by simp⟩
  | c :: cs, acc, r, h => by
    rw [List.foldl_cons] at h
    obtain ⟨r0, h1, t, h2, h3⟩ := subsF_sub cs _ r h
    rcases List.mem_append.mp h1 with z | z
    · exact ⟨r0, z, t, h2.cons c, h3⟩
    · obtain ⟨q, hq, rfl⟩ := List.mem_map.mp z
      exact ⟨q, hq, c :: t, h2.cons_cons c, by rw [h3]; simp⟩
theorem subsets_sub {cs r : List Int} (h : r ∈ lSubsets cs) : r.Sublist cs := by
  unfold lSubsets at h
  rw [(List.mergeSort_perm ..).mem_iff] at h
  obtain ⟨r0, h1, t, h2, h3⟩ := subsF_sub cs [[]] r h
  rw [List.mem_singleton.mp h1, List.nil_append] at h3
  rw [h3]; exact h2
section
variable {w : Web}
def rng (w : Web) (m : Int) : Prop := 0 ≤ m ∧ m ≤ everyOf w
theorem every_eq (W : WebOk w) : w.cs.length < 6 ∧ everyOf w = (2 : Int) ^ w.cs.length - 1 := ⟨by have := W.c5; omega, by unfold everyOf lPow; rw [Int.toNat_natCast]⟩
theorem rng_nat (W : WebOk w) {m : Int} (h : rng w m) : ∃ k : Nat, k < 2 ^ w.cs.length ∧ m = k := by
  obtain ⟨k, rfl⟩ := Int.eq_ofNat_of_zero_le h.1
  refine ⟨k, ?_, rfl⟩
  have := h.2
  rw [(every_eq W).2] at this
  have e : (((2 : Nat) ^ w.cs.length : Nat) : Int) = (2 : Int) ^ w.cs.length := by simp
  omega
theorem rng_lt (W : WebOk w) {m : Int} (h : rng w m) : 0 ≤ m ∧ m < 32 := by
  obtain ⟨k, hk, rfl⟩ := rng_nat W h
  have := (bit3 _ (every_eq W).1 k hk).1
  omega
theorem rng_set (W : WebOk w) {m : Int} (h : rng w m) : NetOk w (lSet m) := ⟨lSet_sorted m, fun c hc => by
  obtain ⟨k, hk, rfl⟩ := rng_nat W h
  exact ⟨(lSet_lt hc).1, of_decide_eq_true (List.all_eq_true.mp (bit3 _ (every_eq W).1 k hk).2.2 c hc)⟩⟩
theorem set_rng (W : WebOk w) {m : Int} (h : 0 ≤ m ∧ m < 32) (hc : ∀ c ∈ lSet m, CIx w c) : rng w m := by
  obtain ⟨k, hk, rfl⟩ := nat_of h
  have := bit4 _ (every_eq W).1 k hk (List.all_eq_true.mpr fun c h => decide_eq_true (hc c h).2)
  refine ⟨by omega, ?_⟩
  rw [(every_eq W).2]
  have e : (((2 : Nat) ^ w.cs.length : Nat) : Int) = (2 : Int) ^ w.cs.length := by simp
  omega
theorem compl_set (W : WebOk w) {m c : Int} (h : rng w m) : c ∈ lSet (everyOf w - m) ↔ CIx w c ∧ c ∉ lSet m := by
  obtain ⟨k, hk, rfl⟩ := rng_nat W h
  rw [(every_eq W).2, (bit3 _ (every_eq W).1 k hk).2.1, List.mem_filter, idxs_mem]
  simp only [Bool.not_eq_true', decide_eq_false_iff_not]
  exact Iff.rfl
theorem mem_small (W : WebOk w) {c : Int} (h : CIx w c) : 0 ≤ c ∧ c < 5 := ⟨h.1, by have := h.2; have := W.c5; omega⟩
/-- a house's own contracts, as a mask -/
theorem own_set (W : WebOk w) (h : Int) : (0 ≤ lOwn w h ∧ lOwn w h < 32) ∧ ∀ c, c ∈ lSet (lOwn w h) ↔ (c ∈ cBuys w.cs h ∨ c ∈ cSells w.cs h) := by
  have b := set_eq (l := cBuys w.cs h) ((idxs_lt _).filter _) fun c hc => mem_small W (mem_cBuys.mp hc).1
  have s := set_eq (l := cSells w.cs h) ((idxs_lt _).filter _) fun c hc => mem_small W (mem_cSells.mp hc).1
  have e : lOwn w h = Builtin.bitOr (lBits (cBuys w.cs h)) (lBits (cSells w.cs h)) := rfl
  rw [e]
  refine ⟨or_b b.1 s.1, fun c => ?_⟩
  rw [set_or b.1 s.1, b.2, s.2]
def ent (w : Web) (h : Int) : PlanE := (lBits (lBuys w h), lBits (lSells w h), lDict w h (lOwn w h))
theorem plan_mem {q : PlanE} : q ∈ lPlan w ↔ ∃ h, HIx w h ∧ 0 < lOwn w h ∧ q = ent w h := by
  have key : ∀ (hs : List Int) (acc : List PlanE), q ∈ hs.foldl (lPlanStep w) acc ↔ q ∈ acc ∨ ∃ h ∈ hs, 0 < lOwn w h ∧ q = ent w h := by
    intro hs
    induction hs with
    | nil => intro acc; simp
    | cons h hs ih =>
      intro acc
      rw [List.foldl_cons, ih]
      have e : q ∈ lPlanStep w acc h ↔ q ∈ acc ∨ (0 < lOwn w h ∧ q = ent w h) := by
        unfold lPlanStep
        split
        · rename_i z
          rw [List.mem_append, List.mem_singleton]
          exact or_congr Iff.rfl ⟨fun y => ⟨z, y⟩, fun y => y.2⟩
        · rename_i z
          exact ⟨.inl, fun y => y.elim id fun y => (z y.1).elim⟩
      rw [e]
      constructor
      · rintro ((y | y) | ⟨k, k1, k2⟩)
        · exact .inl y
        · exact .inr ⟨h, List.mem_cons_self, y⟩
        · exact .inr ⟨k, List.mem_cons_of_mem _ k1, k2⟩
      · rintro (y | ⟨k, k1, k2⟩)
        · exact .inl (.inl y)
        · rcases List.mem_cons.mp k1 with z | z
          · rw [z] at k2; exact .inl (.inr k2)
          · exact .inr ⟨k, z, k2⟩
  unfold lPlan
  rw [key]
  simp only [List.not_mem_nil, false_or, idxs_mem]
  exact Iff.rfl
theorem takes_choose (W : WebOk w) {h : Int} (hh : HIx w h) (off : List Int) : lTakes w h off = choose w h off := (gc_house W hh).2.cg.2 off
/-- what the plan tells -/
theorem look_ent (W : WebOk w) {h : Int} (hh : HIx w h) {m : Int} (hm : 0 ≤ m ∧ m < 32) : lookD (lDict w h (lOwn w h)) (Builtin.bitAnd m (lOwn w h)) = some (lBits (choose w h (lSet (Builtin.bitAnd m (lOwn w h))))) := by
  have o := own_set W h
  have ha := and_b hm o.1
  have hb : 0 ≤ Builtin.bitAnd m (lOwn w h) ∧ Builtin.bitAnd m (lOwn w h) < 32 := ⟨ha.1, by have := o.1; omega⟩
  unfold lDict
  refine fold_look lBits (fun off => lBits (lTakes w h off)) _ [] (fun off ho e => ?_) (.inl ⟨lSet (Builtin.bitAnd m (lOwn w h)), ?_, bits_set hb⟩)
  · have sb := subsets_sub ho
    have := set_eq ((lSet_sorted _).sublist sb) fun c hc => lSet_lt5 o.1 c (sb.subset hc)
    show lBits (lTakes w h off) = _
    rw [takes_choose W hh, ← this.2, e]
  · have : lSet (Builtin.bitAnd m (lOwn w h)) = offer (lSet (lOwn w h)) (lSet m) := by
      refine List.Perm.eq_of_pairwise (le := (· < ·)) (fun a b _ _ h1 h2 => by omega) (lSet_sorted _) ((lSet_sorted _).filter _) ((List.perm_ext_iff_of_nodup ((lSet_sorted _).imp fun h => by omega) (((lSet_sorted _).imp fun h => by omega : (lSet (lOwn w h)).Nodup).filter _)).mpr fun c => ?_)
      have e2 : c ∈ offer (lSet (lOwn w h)) (lSet m) ↔ c ∈ lSet (lOwn w h) ∧ c ∈ lSet m := mem_offer
      rw [set_and hm o.1]
      exact and_comm.trans e2.symm
    rw [this]
    exact offer_subs _ _
theorem get_ent (W : WebOk w) {h : Int} (hh : HIx w h) {m : Int} (hm : 0 ≤ m ∧ m < 32) : lGet (ent w h) (Builtin.bitAnd m (lOwn w h)) = lBits (choose w h (lSet (Builtin.bitAnd m (lOwn w h)))) := by
  show (lookD (lDict w h (lOwn w h)) (Builtin.bitAnd m (lOwn w h))).getD 0 = _
  rw [look_ent W hh hm]; rfl
theorem choose_lt (W : WebOk w) {h : Int} (hh : HIx w h) (L : List Int) : (choose w h L).Pairwise (· < ·) := by
  have nd := (gc_house W hh).1.nd L
  have pw : (choose w h L).Pairwise (· ≤ ·) := isort_pw _
  exact (pw.and nd).imp fun h => by have := h.1; have := h.2; omega
theorem choose_set (W : WebOk w) {h : Int} (hh : HIx w h) (L : List Int) : (0 ≤ lBits (choose w h L) ∧ lBits (choose w h L) < 32) ∧ lSet (lBits (choose w h L)) = choose w h L :=
  set_eq (choose_lt W hh L) fun c hc => mem_small W (by
    rcases ((gc_house W hh).1.sub L c hc).2 with q | q
    · exact (mem_cBuys.mp q).1
    · exact (mem_cSells.mp q).1)
end
end N50
/-! text M11 -/
set_option maxHeartbeats 4000000
namespace N50
open PySem Classical
section
variable {w : Web} {rk : Int → Nat} {hr : Rk w rk} {m : Int}
theorem own_mem (W : WebOk w) {h c : Int} : c ∈ lSet (lOwn w h) ↔ (netOf w rk hr).own h c := by
  rw [(own_set W h).2]
  exact or_congr B_iff.symm S_iff.symm
theorem own_pos (W : WebOk w) {h c : Int} (ho : (netOf w rk hr).own h c) : 0 < lOwn w h := by
  have hc := (own_mem (rk := rk) (hr := hr) W).mpr ho
  have := (own_set W h).1.1
  refine Classical.byContradiction fun z => ?_
  have : lOwn w h = 0 := by omega
  rw [this, show lSet 0 = [] by decide +kernel] at hc
  simp at hc
theorem kept_mask (W : WebOk w) (hm : rng w m) : lKept (lPlan w) m = true ↔ (netOf w rk hr).Kept fun c => c ∈ lSet m := by
  have hm2 := rng_lt W hm
  unfold lKept
  rw [List.all_eq_true]
  have eL : ∀ h c, (netOf w rk hr).own h c → (c ∈ lSet (Builtin.bitAnd m (lOwn w h)) ↔ c ∈ lSet m) := fun h c ho => by
    rw [set_and hm2 (own_set W h).1, own_mem (rk := rk) (hr := hr) W]
    exact ⟨fun q => q.1, fun q => ⟨q, ho⟩⟩
  constructor
  · intro h k c ho hc
    have hh := house_of W ho
    have e := of_decide_eq_true (h (ent w k) (plan_mem.mpr ⟨k, hh, own_pos W ho, rfl⟩))
    have e : lGet (ent w k) (Builtin.bitAnd m (lOwn w k)) = Builtin.bitAnd m (lOwn w k) := e
    rw [get_ent W hh hm2] at e
    have s := (choose_set W hh (lSet (Builtin.bitAnd m (lOwn w k)))).2
    rw [e] at s
    rw [X_list W hh (eL k) c, ← s]
    exact (eL k c ho).mpr hc
  · intro h q hq
    obtain ⟨k, hh, _, rfl⟩ := plan_mem.mp hq
    refine decide_eq_true ?_
    show lGet (ent w k) (Builtin.bitAnd m (lOwn w k)) = Builtin.bitAnd m (lOwn w k)
    rw [get_ent W hh hm2]
    have o := (own_set W k).1
    have ha := and_b hm2 o
    have s := choose_set W hh (lSet (Builtin.bitAnd m (lOwn w k)))
    refine set_inj s.1 ⟨ha.1, by omega⟩ ?_
    rw [s.2]
    refine List.Perm.eq_of_pairwise (le := (· < ·)) (fun a b _ _ h1 h2 => by omega) (choose_lt W hh _) (lSet_sorted _) ((List.perm_ext_iff_of_nodup ((choose_lt W hh _).imp fun h => by omega) ((lSet_sorted _).imp fun h => by omega)).mpr fun c => ?_)
    constructor
    · intro hc
      exact ((gc_house W hh).1.sub _ c hc).1
    · intro hc
      obtain ⟨c1, c2⟩ := (set_and hm2 o).mp hc
      have ho := (own_mem (rk := rk) (hr := hr) W).mp c2
      exact (X_list W hh (eL k) c).mp (h k c ho c1)
theorem gains_mask (W : WebOk w) (hm : rng w m) {lot : Int} (hl : rng w lot) : lGains (lPlan w) m lot = true ↔ ∀ h c, (netOf w rk hr).own h c → c ∈ lSet lot → (netOf w rk hr).X h (fun x => x ∈ lSet m ∨ x ∈ lSet lot) c := by
  have hm2 := rng_lt W hm
  have hl2 := rng_lt W hl
  have hu := or_b hm2 hl2
  unfold lGains
  rw [List.all_eq_true]
  have eL : ∀ h c, (netOf w rk hr).own h c → (c ∈ lSet (Builtin.bitAnd (Builtin.bitOr m lot) (lOwn w h)) ↔ (c ∈ lSet m ∨ c ∈ lSet lot)) := fun h c ho => by
    rw [set_and hu (own_set W h).1, set_or hm2 hl2, own_mem (rk := rk) (hr := hr) W]
    exact ⟨fun q => q.1, fun q => ⟨q, ho⟩⟩
  have one : ∀ k, HIx w k → (lGainOk m lot (ent w k) = true ↔ ∀ c ∈ lSet (Builtin.bitAnd lot (lOwn w k)), c ∈ choose w k (lSet (Builtin.bitAnd (Builtin.bitOr m lot) (lOwn w k)))) := fun k hh => by
    have o := (own_set W k).1
    have ho := and_b hl2 o
    have ho2 : 0 ≤ Builtin.bitAnd lot (lOwn w k) ∧ Builtin.bitAnd lot (lOwn w k) < 32 := ⟨ho.1, by omega⟩
    have s := choose_set W hh (lSet (Builtin.bitAnd (Builtin.bitOr m lot) (lOwn w k)))
    have e : lGainOk m lot (ent w k) = !(decide (0 < Builtin.bitAnd lot (lOwn w k)) && !decide (Builtin.bitAnd (lGet (ent w k) (Builtin.bitAnd (Builtin.bitOr m lot) (lOwn w k))) (Builtin.bitAnd lot (lOwn w k)) = Builtin.bitAnd lot (lOwn w k))) := rfl
    rw [e, get_ent W hh hu]
    have b := and_b s.1 ho2
    have eq : Builtin.bitAnd (lBits (choose w k (lSet (Builtin.bitAnd (Builtin.bitOr m lot) (lOwn w k))))) (Builtin.bitAnd lot (lOwn w k)) = Builtin.bitAnd lot (lOwn w k) ↔ ∀ c ∈ lSet (Builtin.bitAnd lot (lOwn w k)), c ∈ choose w k (lSet (Builtin.bitAnd (Builtin.bitOr m lot) (lOwn w k))) := by
      constructor
      · intro z c hc
        rw [← z, set_and s.1 ho2, s.2] at hc
        exact hc.1
      · intro z
        refine set_inj ⟨b.1, by omega⟩ ho2 ?_
        refine List.Perm.eq_of_pairwise (le := (· < ·)) (fun a b _ _ h1 h2 => by omega) (lSet_sorted _) (lSet_sorted _) ((List.perm_ext_iff_of_nodup ((lSet_sorted _).imp fun h => by omega) ((lSet_sorted _).imp fun h => by omega)).mpr fun c => ?_)
        rw [set_and s.1 ho2, s.2]
        exact ⟨fun q => q.2, fun q => ⟨z c q, q⟩⟩
    rw [Bool.not_eq_true', Bool.and_eq_false_iff, decide_eq_false_iff_not, Bool.not_eq_false', decide_eq_true_iff, eq]
    constructor
    · rintro (z | z)
      · have : Builtin.bitAnd lot (lOwn w k) = 0 := by omega
        intro c hc
        rw [this, show lSet 0 = [] by decide +kernel] at hc
        simp at hc
      · exact z
    · exact .inr
  constructor
  · intro h k c ho hc
    have hh := house_of W ho
    have z := (one k hh).mp (h _ (plan_mem.mpr ⟨k, hh, own_pos W ho, rfl⟩)) c ((set_and hl2 (own_set W k).1).mpr ⟨hc, (own_mem (rk := rk) (hr := hr) W).mpr ho⟩)
    exact (X_list W hh (eL k) c).mpr z
  · intro h q hq
    obtain ⟨k, hh, _, rfl⟩ := plan_mem.mp hq
    refine (one k hh).mpr fun c hc => ?_
    obtain ⟨c1, c2⟩ := (set_and hl2 (own_set W k).1).mp hc
    have ho := (own_mem (rk := rk) (hr := hr) W).mp c2
    exact (X_list W hh (eL k) c).mp (h k c ho c1)
theorem compl_rng (W : WebOk w) (hm : rng w m) : rng w (everyOf w - m) := ⟨by have := hm.2; omega, by have := hm.1; omega⟩
theorem within_iff {e lot : Int} (h : 0 ≤ e) : lot ∈ lWithin e ↔ (0 ≤ lot ∧ lot ≤ e) ∧ Builtin.bitAnd lot e = lot := by
  unfold lWithin
  rw [List.mem_filter, idxs_mem, decide_eq_true_iff]
  omega
theorem within_sub (W : WebOk w) (hm : rng w m) {lot : Int} : lot ∈ lWithin (everyOf w - m) ↔ rng w lot ∧ ∀ c ∈ lSet lot, c ∉ lSet m := by
  have hc := compl_rng W hm
  have hc2 := rng_lt W hc
  rw [within_iff hc.1]
  constructor
  · rintro ⟨h1, h2⟩
    have hl : rng w lot := ⟨h1.1, by have := hc.2; omega⟩
    refine ⟨hl, fun c h => ?_⟩
    rw [← h2, set_and (rng_lt W hl) hc2, compl_set W hm] at h
    exact h.2.2
  · rintro ⟨hl, h⟩
    have hl2 := rng_lt W hl
    have b := and_b hl2 hc2
    have e : Builtin.bitAnd lot (everyOf w - m) = lot := by
      refine set_inj ⟨b.1, by omega⟩ hl2 ?_
      refine List.Perm.eq_of_pairwise (le := (· < ·)) (fun a b _ _ h1 h2 => by omega) (lSet_sorted _) (lSet_sorted _) ((List.perm_ext_iff_of_nodup ((lSet_sorted _).imp fun h => by omega) ((lSet_sorted _).imp fun h => by omega)).mpr fun c => ?_)
      rw [set_and hl2 hc2, compl_set W hm]
      exact ⟨fun q => q.1, fun q => ⟨q, (rng_set W hl).c c q, h c q⟩⟩
    refine ⟨⟨hl.1, ?_⟩, e⟩
    rw [e] at b; exact b.2
theorem hasgain_mask (W : WebOk w) (hm : rng w m) : lHasGain (lPlan w) m (everyOf w) = true ↔ ∃ Z, (netOf w rk hr).Gains (fun c => c ∈ lSet m) Z := by
  unfold lHasGain
  rw [List.any_eq_true]
  constructor
  · rintro ⟨lot, h1, h2⟩
    obtain ⟨hl, hd⟩ := (within_sub W hm).mp h1
    rw [Bool.and_eq_true, decide_eq_true_iff] at h2
    refine ⟨fun c => c ∈ lSet lot, ?_, fun c hc => ⟨(rng_set W hl).c c hc, hd c hc⟩, (gains_mask W hm hl).mp h2.2⟩
    cases q : lSet lot with
    | nil =>
      have := bits_set (rng_lt W hl)
      rw [q] at this
      have z : lBits [] = 0 := rfl
      omega
    | cons c l => exact ⟨c, by simp⟩
  · rintro ⟨Z, ⟨c0, h0⟩, h1, h2⟩
    obtain ⟨lot, l1, l2⟩ := of_mask (l := lst w Z) ((idxs_lt _).filter _) fun c hc => mem_small W (mem_lst.mp hc).1
    have mem : ∀ c, c ∈ lSet lot ↔ Z c := fun c => by rw [← l2, mem_lst]; exact ⟨fun q => q.2, fun q => ⟨(h1 c q).1, q⟩⟩
    have hl : rng w lot := set_rng W l1 fun c hc => (h1 c ((mem c).mp hc)).1
    refine ⟨lot, (within_sub W hm).mpr ⟨hl, fun c hc => (h1 c ((mem c).mp hc)).2⟩, ?_⟩
    rw [Bool.and_eq_true, decide_eq_true_iff]
    refine ⟨?_, (gains_mask (rk := rk) (hr := hr) W hm hl).mpr fun h c ho hc => ?_⟩
    · refine Classical.byContradiction fun z => ?_
      have : lot = 0 := by have := l1.1; omega
      have hc := (mem c0).mpr h0
      rw [this, show lSet 0 = [] by decide +kernel] at hc
      simp at hc
    · have e : (fun x => x ∈ lSet m ∨ x ∈ lSet lot) = fun x => x ∈ lSet m ∨ Z x := funext fun x => by rw [mem x]
      rw [e]
      exact h2 h c ho ((mem c).mp hc)
theorem rest_mask (W : WebOk w) (hm : rng w m) : m ∈ lAtRest (lPlan w) (everyOf w) ↔ (netOf w rk hr).Kept (fun c => c ∈ lSet m) ∧ ∀ Z, ¬ (netOf w rk hr).Gains (fun c => c ∈ lSet m) Z := by
  unfold lAtRest
  rw [List.mem_filter, idxs_mem, Bool.and_eq_true, Bool.not_eq_true', ← Bool.not_eq_true, kept_mask (rk := rk) (hr := hr) W hm, hasgain_mask (rk := rk) (hr := hr) W hm, not_exists]
  exact ⟨fun q => q.2, fun q => ⟨⟨hm.1, by have := hm.2; have := hm.1; omega⟩, q⟩⟩
end
theorem law_ok {w : Web} (W : WebOk w) : LawOk w := by
  obtain ⟨rk, hr⟩ := W.dn
  have A : (netOf w rk hr).Ax := ax W
  have ev := every_eq W
  have p5 : (2 : Int) ^ w.cs.length = 1 ∨ (2 : Int) ^ w.cs.length = 2 ∨ (2 : Int) ^ w.cs.length = 4 ∨ (2 : Int) ^ w.cs.length = 8 ∨ (2 : Int) ^ w.cs.length = 16 ∨ (2 : Int) ^ w.cs.length = 32 := by
    rcases (by omega : w.cs.length = 0 ∨ w.cs.length = 1 ∨ w.cs.length = 2 ∨ w.cs.length = 3 ∨ w.cs.length = 4 ∨ w.cs.length = 5) with e | e | e | e | e | e <;> rw [e] <;> decide
  have chs : ∀ q ∈ w.hs, ChOk w.cs.length q.2 ∧ NNc q.2 := fun q hq => by
    obtain ⟨i, hi, e⟩ := List.mem_iff_getElem.mp hq
    have := W.al i q (by rw [List.getElem?_eq_getElem hi, e])
    exact ⟨this.ok, this.nn⟩
  have S : WS w := ⟨⟨by have := W.h5; omega, by have := W.c5; omega, fun q hq => (chs q hq).1, W.se⟩, W.h5, by have := W.c5; omega, fun q hq => (chs q hq).2, fun h hh off c hc => by
    rw [takes_choose W hh] at hc
    have : CIx w c := by
      rcases ((gc_house W hh).1.sub off c hc).2 with q | q
      · exact (mem_cBuys.mp q).1
      · exact (mem_cSells.mp q).1
    have := mem_small W this
    omega⟩
  have rest : ∀ m, rng w m → (judge w (lSet m) (toldOffers w (lSet m)) = true ↔ m ∈ lAtRest (lPlan w) (everyOf w)) ∧ ((∃ off, verdict w (lSet m) = .rest off) ↔ m ∈ lAtRest (lPlan w) (everyOf w)) := fun m hm => by
    have N := rng_set W hm
    have hN : ∀ c, c ∈ lSet m → (netOf w rk hr).C c := N.c
    have T : (netOf w rk hr).Told (fun c => c ∈ lSet m) fun c => c ∈ toldOffers w (lSet m) := told_ok W N
    rw [rest_mask (rk := rk) (hr := hr) W hm, judge_iff (rk := rk) (hr := hr) W N]
    refine ⟨Net.rest_jdg A hN T, ?_⟩
    rw [← Net.rest_path A hN T, ← kept_iff (rk := rk) (hr := hr) W N, ← chain_iff (rk := rk) (hr := hr) W]
    unfold verdict
    cases q : firstDropping w (lSet m) with
    | some d => simp
    | none =>
      cases q2 : gainingChain w (lSet m) with
      | some r => simp
      | none => simp
  refine ⟨S, W.dn, W.c5, by omega, by omega, fun q hq k h0 h1 => ?_, fun net h0 h1 lot hl => ?_, fun m h0 h1 => ?_, fun m h0 h1 => (rest m ⟨h0, h1⟩).2⟩
  · obtain ⟨h, hh, _, rfl⟩ := plan_mem.mp hq
    exact ⟨_, look_ent W hh (rng_lt W ⟨h0, h1⟩)⟩
  · have hm : rng w net := ⟨h0, h1⟩
    obtain ⟨l1, _⟩ := (within_sub W hm).mp hl
    have b := or_b (rng_lt W hm) (rng_lt W l1)
    exact set_rng W b fun c hc => ((set_or (rng_lt W hm) (rng_lt W l1)).mp hc).elim (fun q => (rng_set W hm).c c q) fun q => (rng_set W l1).c c q
  · rw [Bool.eq_iff_iff, decide_eq_true_iff]
    exact (rest m ⟨h0, h1⟩).1
theorem law_all (s ds : List Int) : LawOk (lWeb s ds).1 := law_ok (lWeb_ok s ds)
end N50
/-! text H1 -/
set_option maxHeartbeats 0
namespace N50
open PySem PySem.Spec PyProof.Rows L2
/-! ### the head: facts by names, the run -/
def dOf (x : Str) (st : Stmt) : He.DefD := ⟨(x, none), x, x, defArgs st, defBody st, defScope st, [], []⟩
def hfn : List He.DefD := [dOf "_law_take" s_law_take, dOf "_law_same" s_law_same, dOf "_law_cell" s_law_cell, dOf "_law_wild" s_law_wild, dOf "_law_word" s_law_word, dOf "_law_greedy" s_law_greedy, dOf "_law_mixed" s_law_mixed, dOf "_law_subsets" s_law_subsets, dOf "_law_traded" s_law_traded, dOf "_law_choose" s_law_choose, dOf "_law_power" s_law_power, dOf "_law_bits" s_law_bits, dOf "_law_set" s_law_set, dOf "_law_takes" s_law_takes, dOf "_law_within" s_law_within, dOf "_law_is_kept" s_law_is_kept, dOf "_law_gains" s_law_gains, dOf "_law_has_gain" s_law_has_gain, dOf "_law_at_rest" s_law_at_rest, dOf "_law_plan" s_law_plan, dOf "_law_table" s_law_table, dOf "_law_draws" s_law_draws, dOf "_law_groups" s_law_groups, dOf "_law_pairs" s_law_pairs, dOf "buys_of" s_buys_of, dOf "offered_of" s_offered_of, dOf "chosen_row" s_chosen_row, dOf "within_caps" s_within_caps, dOf "joined_sets" s_joined_sets, dOf "houses_down" s_houses_down, dOf "asked_behind" s_asked_behind, dOf "traded" s_traded, dOf "wishes_of" s_wishes_of, dOf "chosen_by" s_chosen_by, dOf "sells_of" s_sells_of, dOf "own_contracts" s_own_contracts, dOf "_law_plain_choice" s_law_plain_choice, dOf "_law_choice" s_law_choice, dOf "_law_unsteady_web" s_law_unsteady_web, dOf "_law_steady_web" s_law_steady_web, dOf "_law_web" s_law_web, dOf "choose" s_choose, dOf "own_part" s_own_part, dOf "takes" s_takes, dOf "begins" s_begins, dOf "ends" s_ends, dOf "goes_on" s_goes_on, dOf "first_dropping" s_first_dropping, dOf "told_offers" s_told_offers, dOf "offered_to" s_offered_to, dOf "judge" s_judge, dOf "is_at_rest" s_is_at_rest, dOf "gaining_chain" s_gaining_chain, dOf "verdict" s_verdict, dOf "law" s_law]
def hfa : List He.Fa := [.glo "_law_take", .glo "_law_same", .glo "_law_cell", .glo "_law_wild", .glo "_law_word", .glo "_law_greedy", .glo "_law_mixed", .glo "_law_subsets", .glo "_law_traded", .glo "_law_choose", .glo "_law_power", .glo "_law_bits", .glo "_law_set", .glo "_law_takes", .glo "_law_within", .glo "_law_is_kept", .glo "_law_gains", .glo "_law_has_gain", .glo "_law_at_rest", .glo "_law_plan", .glo "_law_table", .glo "_law_draws", .glo "_law_groups", .glo "_law_pairs", .glo "buys_of", .glo "offered_of", .glo "chosen_row", .glo "within_caps", .glo "joined_sets", .glo "houses_down", .glo "asked_behind", .glo "traded", .glo "wishes_of", .glo "chosen_by", .glo "sells_of", .glo "own_contracts", .glo "_law_plain_choice", .glo "_law_choice", .glo "_law_unsteady_web", .glo "_law_steady_web", .glo "_law_web", .glo "choose", .glo "own_part", .glo "takes", .glo "begins", .glo "ends", .glo "goes_on", .glo "first_dropping", .glo "told_offers", .glo "offered_to", .glo "judge", .glo "is_at_rest", .glo "gaining_chain", .glo "verdict", .glo "law", .free "len", .free "tuple", .free "list", .free "sorted", .free "set", .free "enumerate", .free "zip", .free "range", .free "min", .free "abs", .free "sum", .free "all", .free "int", .free "isinstance", .free "bool", .free "max"]
def tdef : He.Defn := ("traded", none)
def hex (K : PySem.W.Frag) : Bool := decide (PySem.W.tabIn K "traded" = some (He.cT K tdef))
abbrev RR : PySem.W.OpenRow := PySem.W.OpenLaw.row PySem.Challenge.rw_nochaingains_k50_whole_rest_means_told_o
abbrev hk : PySem.W.Hook := He.hookX 4 hfa hfn [] [tdef] hex
def hob (s : PySem.W.SharedT) : He.AlX := He.obsX 4 hfa hfn [] [tdef] hex (HandSHeadRun.getT s)
theorem hob_eq (s : PySem.W.SharedT) : hob s = hk.obs s.abs := He.obsX_eq (HandSHeadRun.getT_eq s)
def nm0 : List PySem.Str := ["_law_take", "_law_same", "_law_cell", "_law_wild", "_law_word", "_law_greedy", "_law_mixed", "_law_subsets", "_law_traded", "_law_choose", "_law_power", "_law_bits", "_law_set", "_law_takes", "_law_within", "_law_is_kept", "_law_gains", "_law_has_gain", "_law_at_rest", "_law_plan", "_law_table", "_law_draws", "_law_groups", "_law_pairs", "buys_of", "offered_of", "chosen_row", "within_caps", "joined_sets", "houses_down"]
def nm1 : List PySem.Str := ["asked_behind", "traded", "wishes_of", "chosen_by", "sells_of", "own_contracts", "_law_plain_choice", "_law_choice", "_law_unsteady_web", "_law_steady_web", "_law_web", "choose", "own_part", "takes", "begins", "ends", "goes_on", "first_dropping", "told_offers", "offered_to", "judge", "is_at_rest", "gaining_chain", "verdict"]
def nms : List PySem.Str := nm0 ++ nm1
theorem run (w : World) : HandSHeadRun.RunEq RR (PySem.W.view RR.prog [60]) hk hob 4000 nms w := by
  intro os
  kernel_rfl
theorem fun_of {st : Stmt} {x : Str} {fa : List He.Fa} {fn : List He.DefD} {K : PySem.W.Frag} (c : He.SaysD fa fn K) (i : Nat) (h : fn[i]? = some (dOf x st)) : ∃ fd, L2.Fun K x x st (He.ga K x) fd := by
  obtain ⟨fd, F⟩ := c.def_ i h
  obtain ⟨oc, od, dV, kV, doc, pm, an, cdv, ct, osl, e, lk, hcd, hD, hK⟩ := F.ex
  rcases hD with ⟨_, e0⟩ | ⟨n, _⟩
  · subst e0
    exact ⟨fd, ⟨oc, od, kV, doc, pm, an, cdv, ct, osl, e, lk, hcd⟩, F.kp⟩
  · exact (n rfl).elim
theorem fun_binds {K : PySem.W.Frag} {x : Str} {st : Stmt} {f : Addr} {fd : FuncData} {ps : List Str} (F : L2.Fun K x x st f fd) (h : ∀ (kV doc pm : Value) (an : Option Addr) (cdv ct : Value) (us : List Value), us.length = ps.length → bindArgs (PySem.W.fnOf x x (defArgs st) (defBody st) (defScope st) .none kV doc pm an cdv ct) ⟨us, []⟩ = pure (ps.zip us)) : Binds K fd ps [] := by
  obtain ⟨oc, od, kV, doc, pm, an, cdv, ct, osl, rfl, lk, hcd⟩ := F.ex
  exact .all (h kV doc pm an cdv ct)
theorem fun_code {K : PySem.W.Frag} {x : Str} {st : Stmt} {fd : FuncData} (F : L2.Fun K x x st (He.ga K x) fd) : fd.code = .ref (He.codeOf K (x, none)) := by
  obtain ⟨oc, od, kV, doc, pm, an, cdv, ct, osl, rfl, lk, hcd⟩ := F.ex
  obtain ⟨c, rfl⟩ := He.codeIn_ref hcd
  rw [He.codeOf_eq (p := (x, none)) lk rfl]
section
variable {P : Program} {w : World} {K : PySem.W.Frag} {mg : Str → Option Value} {h : Heap}

theorem bt_of (X : K.In h) (G : h.Ns mainGlobals mg) (c : He.SaysD hfa hfn K) : Bt mg ∧ mg "max" = none := by
  have fr : ∀ (i : Nat) (x : Str), hfa[i]? = some (.free x) → mg x = none := fun i x e => He.free_ok X G (c.fact i e)
  exact ⟨⟨fr 55 _ rfl, fr 56 _ rfl, fr 57 _ rfl, fr 58 _ rfl, fr 59 _ rfl, fr 60 _ rfl, fr 61 _ rfl, fr 62 _ rfl, fr 63 _ rfl, fr 64 _ rfl, fr 65 _ rfl, fr 66 _ rfl, fr 67 _ rfl, fr 68 _ rfl, fr 69 _ rfl⟩, fr 70 _ rfl⟩
theorem facts (X : K.In h) (G : h.Ns mainGlobals mg) (c : He.SaysD hfa hfn K) (hx : hex K = true) : ∃ fd : FuncData, (∀ (s : Shared) (v : Value), BindsTo s fd ⟨[v], []⟩ [("_law_script", v)]) ∧ ∀ base : Heap, K.In base → base.Ns mainGlobals mg → LamX.TabB base mg (He.cT K tdef).1 (He.cT K tdef).2 → FnOk P w K mg base CX0 11 (He.ga K "law") fd ["_law_script"] (SpP 1 R_law K) := by
  obtain ⟨T, hmx⟩ := bt_of X G c
  have hT : PySem.W.tabIn K "traded" = some (He.cT K tdef) := of_decide_eq_true hx
  have gl : ∀ (i : Nat) (x : Str), hfa[i]? = some (.glo x) → mg x = some (.ref (He.ga K x)) := fun i x e => He.glo_ok X G (c.fact i e)
  obtain ⟨fd0, F0⟩ := fun_of (st := s_law_take) (x := "_law_take") c 0 rfl
  obtain ⟨fd1, F1⟩ := fun_of (st := s_law_same) (x := "_law_same") c 1 rfl
  obtain ⟨fd2, F2⟩ := fun_of (st := s_law_cell) (x := "_law_cell") c 2 rfl
  obtain ⟨fd3, F3⟩ := fun_of (st := s_law_wild) (x := "_law_wild") c 3 rfl
  obtain ⟨fd4, F4⟩ := fun_of (st := s_law_word) (x := "_law_word") c 4 rfl
  obtain ⟨fd5, F5⟩ := fun_of (st := s_law_greedy) (x := "_law_greedy") c 5 rfl
  obtain ⟨fd6, F6⟩ := fun_of (st := s_law_mixed) (x := "_law_mixed") c 6 rfl
  obtain ⟨fd7, F7⟩ := fun_of (st := s_law_subsets) (x := "_law_subsets") c 7 rfl
  obtain ⟨fd8, F8⟩ := fun_of (st := s_law_traded) (x := "_law_traded") c 8 rfl
  obtain ⟨fd9, F9⟩ := fun_of (st := s_law_choose) (x := "_law_choose") c 9 rfl
  obtain ⟨fd10, F10⟩ := fun_of (st := s_law_power) (x := "_law_power") c 10 rfl
  obtain ⟨fd11, F11⟩ := fun_of (st := s_law_bits) (x := "_law_bits") c 11 rfl
  obtain ⟨fd12, F12⟩ := fun_of (st := s_law_set) (x := "_law_set") c 12 rfl
  obtain ⟨fd13, F13⟩ := fun_of (st := s_law_takes) (x := "_law_takes") c 13 rfl
  obtain ⟨fd14, F14⟩ := fun_of (st := s_law_within) (x := "_law_within") c 14 rfl
  obtain ⟨fd15, F15⟩ := fun_of (st := s_law_is_kept) (x := "_law_is_kept") c 15 rfl
  obtain ⟨fd16, F16⟩ := fun_of (st := s_law_gains) (x := "_law_gains") c 16 rfl
  obtain ⟨fd17, F17⟩ := fun_of (st := s_law_has_gain) (x := "_law_has_gain") c 17 rfl
  obtain ⟨fd18, F18⟩ := fun_of (st := s_law_at_rest) (x := "_law_at_rest") c 18 rfl
  obtain ⟨fd19, F19⟩ := fun_of (st := s_law_plan) (x := "_law_plan") c 19 rfl
  obtain ⟨fd20, F20⟩ := fun_of (st := s_law_table) (x := "_law_table") c 20 rfl
  obtain ⟨fd21, F21⟩ := fun_of (st := s_law_draws) (x := "_law_draws") c 21 rfl
  obtain ⟨fd22, F22⟩ := fun_of (st := s_law_groups) (x := "_law_groups") c 22 rfl
  obtain ⟨fd23, F23⟩ := fun_of (st := s_law_pairs) (x := "_law_pairs") c 23 rfl
  obtain ⟨fd24, F24⟩ := fun_of (st := s_buys_of) (x := "buys_of") c 24 rfl
  obtain ⟨fd25, F25⟩ := fun_of (st := s_offered_of) (x := "offered_of") c 25 rfl
  obtain ⟨fd26, F26⟩ := fun_of (st := s_chosen_row) (x := "chosen_row") c 26 rfl
  obtain ⟨fd27, F27⟩ := fun_of (st := s_within_caps) (x := "within_caps") c 27 rfl
  obtain ⟨fd28, F28⟩ := fun_of (st := s_joined_sets) (x := "joined_sets") c 28 rfl
  obtain ⟨fd29, F29⟩ := fun_of (st := s_houses_down) (x := "houses_down") c 29 rfl
  obtain ⟨fd30, F30⟩ := fun_of (st := s_asked_behind) (x := "asked_behind") c 30 rfl
  obtain ⟨fd31, F31⟩ := fun_of (st := s_traded) (x := "traded") c 31 rfl
  obtain ⟨fd32, F32⟩ := fun_of (st := s_wishes_of) (x := "wishes_of") c 32 rfl
  obtain ⟨fd33, F33⟩ := fun_of (st := s_chosen_by) (x := "chosen_by") c 33 rfl
  obtain ⟨fd34, F34⟩ := fun_of (st := s_sells_of) (x := "sells_of") c 34 rfl
  obtain ⟨fd35, F35⟩ := fun_of (st := s_own_contracts) (x := "own_contracts") c 35 rfl
  obtain ⟨fd36, F36⟩ := fun_of (st := s_law_plain_choice) (x := "_law_plain_choice") c 36 rfl
  obtain ⟨fd37, F37⟩ := fun_of (st := s_law_choice) (x := "_law_choice") c 37 rfl
  obtain ⟨fd38, F38⟩ := fun_of (st := s_law_unsteady_web) (x := "_law_unsteady_web") c 38 rfl
  obtain ⟨fd39, F39⟩ := fun_of (st := s_law_steady_web) (x := "_law_steady_web") c 39 rfl
  obtain ⟨fd40, F40⟩ := fun_of (st := s_law_web) (x := "_law_web") c 40 rfl
  obtain ⟨fd41, F41⟩ := fun_of (st := s_choose) (x := "choose") c 41 rfl
  obtain ⟨fd42, F42⟩ := fun_of (st := s_own_part) (x := "own_part") c 42 rfl
  obtain ⟨fd43, F43⟩ := fun_of (st := s_takes) (x := "takes") c 43 rfl
  obtain ⟨fd44, F44⟩ := fun_of (st := s_begins) (x := "begins") c 44 rfl
  obtain ⟨fd45, F45⟩ := fun_of (st := s_ends) (x := "ends") c 45 rfl
  obtain ⟨fd46, F46⟩ := fun_of (st := s_goes_on) (x := "goes_on") c 46 rfl
  obtain ⟨fd47, F47⟩ := fun_of (st := s_first_dropping) (x := "first_dropping") c 47 rfl
  obtain ⟨fd48, F48⟩ := fun_of (st := s_told_offers) (x := "told_offers") c 48 rfl
  obtain ⟨fd49, F49⟩ := fun_of (st := s_offered_to) (x := "offered_to") c 49 rfl
  obtain ⟨fd50, F50⟩ := fun_of (st := s_judge) (x := "judge") c 50 rfl
  obtain ⟨fd51, F51⟩ := fun_of (st := s_is_at_rest) (x := "is_at_rest") c 51 rfl
  obtain ⟨fd52, F52⟩ := fun_of (st := s_gaining_chain) (x := "gaining_chain") c 52 rfl
  obtain ⟨fd53, F53⟩ := fun_of (st := s_verdict) (x := "verdict") c 53 rfl
  obtain ⟨fd54, F54⟩ := fun_of (st := s_law) (x := "law") c 54 rfl
  refine ⟨fd54, fun s v => ?_, fun base XB GB TB => ?_⟩
  · obtain ⟨oc, od, kV, doc, pm, an, cdv, ct, osl, rfl, lk, hcd⟩ := F54.ex
    exact .of_eq rfl
  have C_take : Cal P w K mg base 1 "_law_take" (SpS 2 0 R_take K) := ⟨⟨_, _, _, ok_take F0 T, gl 0 _ rfl, F0.kp, fun_binds F0 (fun _ _ _ _ _ _ us hl => match us, hl with | [_, _], _ => rfl)⟩⟩
  have C_same : Cal P w K mg base 1 "_law_same" (SpP 2 R_same K) := ⟨⟨_, _, _, ok_same F1 T, gl 1 _ rfl, F1.kp, fun_binds F1 (fun _ _ _ _ _ _ us hl => match us, hl with | [_, _], _ => rfl)⟩⟩
  have C_cell : Cal P w K mg base 2 "_law_cell" (SpS 2 1 R_cell K) := ⟨⟨_, _, _, ok_cell F2 T C_take, gl 2 _ rfl, F2.kp, fun_binds F2 (fun _ _ _ _ _ _ us hl => match us, hl with | [_, _], _ => rfl)⟩⟩
  have C_wild : Cal P w K mg base 1 "_law_wild" (SpP 2 R_wild K) := ⟨⟨_, _, _, ok_wild F3 T, gl 3 _ rfl, F3.kp, fun_binds F3 (fun _ _ _ _ _ _ us hl => match us, hl with | [_, _], _ => rfl)⟩⟩
  have C_word : Cal P w K mg base 1 "_law_word" (SpP 1 R_word K) := ⟨⟨_, _, _, ok_word F4 T, gl 4 _ rfl, F4.kp, fun_binds F4 (fun _ _ _ _ _ _ us hl => match us, hl with | [_], _ => rfl)⟩⟩
  have C_greedy : Cal P w K mg base 1 "_law_greedy" (SpP 3 R_greedy K) := ⟨⟨_, _, _, ok_greedy F5 T, gl 5 _ rfl, F5.kp, fun_binds F5 (fun _ _ _ _ _ _ us hl => match us, hl with | [_, _, _], _ => rfl)⟩⟩
  have C_mixed : Cal P w K mg base 2 "_law_mixed" (SpS 3 0 R_mixed K) := ⟨⟨_, _, _, ok_mixed F6 T C_take, gl 6 _ rfl, F6.kp, fun_binds F6 (fun _ _ _ _ _ _ us hl => match us, hl with | [_, _, _], _ => rfl)⟩⟩
  have C_subsets : Cal P w K mg base 1 "_law_subsets" (SpP 1 R_subsets K) := ⟨⟨_, _, _, ok_subsets F7 T, gl 7 _ rfl, F7.kp, fun_binds F7 (fun _ _ _ _ _ _ us hl => match us, hl with | [_], _ => rfl)⟩⟩
  have C_ltraded : Cal P w K mg base 1 "_law_traded" (SpP 3 R_ltr K) := ⟨⟨_, _, _, ok_ltraded F8 T, gl 8 _ rfl, F8.kp, fun_binds F8 (fun _ _ _ _ _ _ us hl => match us, hl with | [_, _, _], _ => rfl)⟩⟩
  have C_lp : Cal P w K mg base 2 "_law_choose" (SpP 3 R_lp K) := ⟨⟨_, _, _, ok_lp F9 T C_greedy C_ltraded, gl 9 _ rfl, F9.kp, fun_binds F9 (fun _ _ _ _ _ _ us hl => match us, hl with | [_, _, _], _ => rfl)⟩⟩
  have C_lc : Cal P w K mg base 4 "_law_choose" (SpP 3 R_lc K) := ⟨⟨_, _, _, ok_lc F9 T C_greedy C_ltraded C_lp, gl 9 _ rfl, F9.kp, fun_binds F9 (fun _ _ _ _ _ _ us hl => match us, hl with | [_, _, _], _ => rfl)⟩⟩
  have C_power : Cal P w K mg base 1 "_law_power" (SpP 1 R_power K) := ⟨⟨_, _, _, ok_power F10, gl 10 _ rfl, F10.kp, fun_binds F10 (fun _ _ _ _ _ _ us hl => match us, hl with | [_], _ => rfl)⟩⟩
  have C_bits : Cal P w K mg base 2 "_law_bits" (SpP 1 R_bits K) := ⟨⟨_, _, _, ok_bits F11 T C_power, gl 11 _ rfl, F11.kp, fun_binds F11 (fun _ _ _ _ _ _ us hl => match us, hl with | [_], _ => rfl)⟩⟩
  have C_set : Cal P w K mg base 2 "_law_set" (SpP 1 R_set K) := ⟨⟨_, _, _, ok_set F12 T C_power, gl 12 _ rfl, F12.kp, fun_binds F12 (fun _ _ _ _ _ _ us hl => match us, hl with | [_], _ => rfl)⟩⟩
  have C_ltakes : Cal P w K mg base 5 "_law_takes" (SpP 3 R_ltakes K) := ⟨⟨_, _, _, ok_ltakes F13 C_lc, gl 13 _ rfl, F13.kp, fun_binds F13 (fun _ _ _ _ _ _ us hl => match us, hl with | [_, _, _], _ => rfl)⟩⟩
  have C_within : Cal P w K mg base 1 "_law_within" (SpP 1 R_within K) := ⟨⟨_, _, _, ok_within F14 T, gl 14 _ rfl, F14.kp, fun_binds F14 (fun _ _ _ _ _ _ us hl => match us, hl with | [_], _ => rfl)⟩⟩
  have C_kept : Cal P w K mg base 1 "_law_is_kept" (SpP 2 R_kept K) := ⟨⟨_, _, _, ok_kept F15, gl 15 _ rfl, F15.kp, fun_binds F15 (fun _ _ _ _ _ _ us hl => match us, hl with | [_, _], _ => rfl)⟩⟩
  have C_gains : Cal P w K mg base 1 "_law_gains" (SpP 3 R_gains K) := ⟨⟨_, _, _, ok_gains F16, gl 16 _ rfl, F16.kp, fun_binds F16 (fun _ _ _ _ _ _ us hl => match us, hl with | [_, _, _], _ => rfl)⟩⟩
  have C_hasgain : Cal P w K mg base 2 "_law_has_gain" (SpP 3 R_hasgain K) := ⟨⟨_, _, _, ok_hasgain F17 C_within C_gains, gl 17 _ rfl, F17.kp, fun_binds F17 (fun _ _ _ _ _ _ us hl => match us, hl with | [_, _, _], _ => rfl)⟩⟩
  have C_atrest : Cal P w K mg base 3 "_law_at_rest" (SpP 2 R_atrest K) := ⟨⟨_, _, _, ok_atrest F18 T C_kept C_hasgain, gl 18 _ rfl, F18.kp, fun_binds F18 (fun _ _ _ _ _ _ us hl => match us, hl with | [_, _], _ => rfl)⟩⟩
  have C_plan : Cal P w K mg base 6 "_law_plan" (SpP 1 R_plan K) := ⟨⟨_, _, _, ok_plan F19 T C_bits C_subsets C_set C_ltakes, gl 19 _ rfl, F19.kp, fun_binds F19 (fun _ _ _ _ _ _ us hl => match us, hl with | [_], _ => rfl)⟩⟩
  have C_table : Cal P w K mg base 3 "_law_table" (SpP 1 R_table K) := ⟨⟨_, _, _, ok_table F20 T C_lp C_subsets, gl 20 _ rfl, F20.kp, fun_binds F20 (fun _ _ _ _ _ _ us hl => match us, hl with | [_], _ => rfl)⟩⟩
  have C_draws : Cal P w K mg base 1 "_law_draws" (SpP 2 R_draws K) := ⟨⟨_, _, _, ok_draws F21 T, gl 21 _ rfl, F21.kp, fun_binds F21 (fun _ _ _ _ _ _ us hl => match us, hl with | [_, _], _ => rfl)⟩⟩
  have C_groups : Cal P w K mg base 2 "_law_groups" (SpS 2 0 R_groups K) := ⟨⟨_, _, _, ok_groups F22 T C_take, gl 22 _ rfl, F22.kp, fun_binds F22 (fun _ _ _ _ _ _ us hl => match us, hl with | [_, _], _ => rfl)⟩⟩
  have C_pairs : Cal P w K mg base 3 "_law_pairs" (SpS 5 1 R_pairs K) := ⟨⟨_, _, _, ok_pairs F23 T hmx C_take C_cell, gl 23 _ rfl, F23.kp, fun_binds F23 (fun _ _ _ _ _ _ us hl => match us, hl with | [_, _, _, _, _], _ => rfl)⟩⟩
  have C_buys_of : Cal P w K mg base 1 "buys_of" (SpP 2 (R_wh buysOf) K) := ⟨⟨_, _, _, ok_buys_of F24 T, gl 24 _ rfl, F24.kp, fun_binds F24 (fun _ _ _ _ _ _ us hl => match us, hl with | [_, _], _ => rfl)⟩⟩
  have C_offered_of : Cal P w K mg base 1 "offered_of" (SpP 2 R_offered_of K) := ⟨⟨_, _, _, ok_offered_of F25, gl 25 _ rfl, F25.kp, fun_binds F25 (fun _ _ _ _ _ _ us hl => match us, hl with | [_, _], _ => rfl)⟩⟩
  have C_chosen_row : Cal P w K mg base 1 "chosen_row" (SpP 2 R_chosen_row K) := ⟨⟨_, _, _, ok_chosen_row F26 T, gl 26 _ rfl, F26.kp, fun_binds F26 (fun _ _ _ _ _ _ us hl => match us, hl with | [_, _], _ => rfl)⟩⟩
  have C_within_caps : Cal P w K mg base 2 "within_caps" (SpP 3 R_within_caps K) := ⟨⟨_, _, _, ok_within_caps F27 T C_offered_of, gl 27 _ rfl, F27.kp, fun_binds F27 (fun _ _ _ _ _ _ us hl => match us, hl with | [_, _, _], _ => rfl)⟩⟩
  have C_joined_sets : Cal P w K mg base 1 "joined_sets" (SpP 2 R_joined K) := ⟨⟨_, _, _, ok_joined_sets F28 T, gl 28 _ rfl, F28.kp, fun_binds F28 (fun _ _ _ _ _ _ us hl => match us, hl with | [_, _], _ => rfl)⟩⟩
  have C_houses_down : Cal P w K mg base 1 "houses_down" (SpP 1 R_down K) := ⟨⟨_, _, _, ok_houses_down F29 T, gl 29 _ rfl, F29.kp, fun_binds F29 (fun _ _ _ _ _ _ us hl => match us, hl with | [_], _ => rfl)⟩⟩
  have C_asked_behind : Cal P w K mg base 1 "asked_behind" (SpP 3 R_asked K) := ⟨⟨_, _, _, ok_asked_behind F30 T, gl 30 _ rfl, F30.kp, fun_binds F30 (fun _ _ _ _ _ _ us hl => match us, hl with | [_, _, _], _ => rfl)⟩⟩
  have C_traded : Cal P w K mg base 2 "traded" (SpP 3 R_traded K) := ⟨⟨_, _, _, ok_traded F31 (fun_code F31) TB hT T C_offered_of, gl 31 _ rfl, F31.kp, fun_binds F31 (fun _ _ _ _ _ _ us hl => match us, hl with | [_, _, _], _ => rfl)⟩⟩
  have C_wishes_of : Cal P w K mg base 1 "wishes_of" (SpP 1 R_wishes K) := ⟨⟨_, _, _, ok_wishes_of F32, gl 32 _ rfl, F32.kp, fun_binds F32 (fun _ _ _ _ _ _ us hl => match us, hl with | [_], _ => rfl)⟩⟩
  have C_plain : Cal P w K mg base 3 "chosen_by" (SpP 3 R_plain K) := ⟨⟨_, _, _, ok_plain F33 T C_chosen_row C_traded C_within_caps C_wishes_of C_offered_of, gl 33 _ rfl, F33.kp, fun_binds F33 (fun _ _ _ _ _ _ us hl => match us, hl with | [_, _, _], _ => rfl)⟩⟩
  have C_chosen_by : Cal P w K mg base 5 "chosen_by" (SpP 3 R_chosen_by K) := ⟨⟨_, _, _, ok_chosen_by F33 T C_chosen_row C_traded C_within_caps C_wishes_of C_offered_of C_plain, gl 33 _ rfl, F33.kp, fun_binds F33 (fun _ _ _ _ _ _ us hl => match us, hl with | [_, _, _], _ => rfl)⟩⟩
  have C_sells_of : Cal P w K mg base 1 "sells_of" (SpP 2 (R_wh sellsOf) K) := ⟨⟨_, _, _, ok_sells_of F34 T, gl 34 _ rfl, F34.kp, fun_binds F34 (fun _ _ _ _ _ _ us hl => match us, hl with | [_, _], _ => rfl)⟩⟩
  have C_own_contracts : Cal P w K mg base 1 "own_contracts" (SpP 2 (R_wh ownOf) K) := ⟨⟨_, _, _, ok_own_contracts F35 T, gl 35 _ rfl, F35.kp, fun_binds F35 (fun _ _ _ _ _ _ us hl => match us, hl with | [_, _], _ => rfl)⟩⟩
  have C_plainc : Cal P w K mg base 4 "_law_plain_choice" (SpS 4 1 R_plainc K) := ⟨⟨_, _, _, ok_plainc F36 T C_take C_cell C_mixed C_groups C_table, gl 36 _ rfl, F36.kp, fun_binds F36 (fun _ _ _ _ _ _ us hl => match us, hl with | [_, _, _, _], _ => rfl)⟩⟩
  have C_pick : Cal P w K mg base 5 "_law_choice" (SpS 4 1 R_pick K) := ⟨⟨_, _, _, ok_pick F37 T C_take C_plainc, gl 37 _ rfl, F37.kp, fun_binds F37 (fun _ _ _ _ _ _ us hl => match us, hl with | [_, _, _, _], _ => rfl)⟩⟩
  have C_unsteady : Cal P w K mg base 3 "_law_unsteady_web" (SpS 1 0 R_unsteady K) := ⟨⟨_, _, _, ok_unsteady F38 T C_take C_mixed C_word, gl 38 _ rfl, F38.kp, fun_binds F38 (fun _ _ _ _ _ _ us hl => match us, hl with | [_], _ => rfl)⟩⟩
  have C_steady : Cal P w K mg base 6 "_law_steady_web" (SpS 4 1 R_steady K) := ⟨⟨_, _, _, ok_steady F39 T C_take C_pairs C_word C_pick, gl 39 _ rfl, F39.kp, fun_binds F39 (fun _ _ _ _ _ _ us hl => match us, hl with | [_, _, _, _], _ => rfl)⟩⟩
  have C_web : Cal P w K mg base 7 "_law_web" (SpS 4 1 R_web K) := ⟨⟨_, _, _, ok_web F40 T C_take C_unsteady C_steady C_wild, gl 40 _ rfl, F40.kp, fun_binds F40 (fun _ _ _ _ _ _ us hl => match us, hl with | [_, _, _, _], _ => rfl)⟩⟩
  have C_choose : Cal P w K mg base 6 "choose" (SpP 3 R_choose K) := ⟨⟨_, _, _, ok_choose F41 T C_chosen_by, gl 41 _ rfl, F41.kp, fun_binds F41 (fun _ _ _ _ _ _ us hl => match us, hl with | [_, _, _], _ => rfl)⟩⟩
  have C_own_part : Cal P w K mg base 2 "own_part" (SpP 3 R_own_part K) := ⟨⟨_, _, _, ok_own_part F42 T C_own_contracts, gl 42 _ rfl, F42.kp, fun_binds F42 (fun _ _ _ _ _ _ us hl => match us, hl with | [_, _, _], _ => rfl)⟩⟩
  have C_takes : Cal P w K mg base 7 "takes" (SpP 4 R_takes K) := ⟨⟨_, _, _, ok_takes F43 T C_choose C_joined_sets, gl 43 _ rfl, F43.kp, fun_binds F43 (fun _ _ _ _ _ _ us hl => match us, hl with | [_, _, _, _], _ => rfl)⟩⟩
  have C_begins : Cal P w K mg base 8 "begins" (SpP 3 (R_net1 begins) K) := ⟨⟨_, _, _, ok_begins F44 C_takes, gl 44 _ rfl, F44.kp, fun_binds F44 (fun _ _ _ _ _ _ us hl => match us, hl with | [_, _, _], _ => rfl)⟩⟩
  have C_ends : Cal P w K mg base 8 "ends" (SpP 3 (R_net1 ends) K) := ⟨⟨_, _, _, ok_ends F45 C_takes, gl 45 _ rfl, F45.kp, fun_binds F45 (fun _ _ _ _ _ _ us hl => match us, hl with | [_, _, _], _ => rfl)⟩⟩
  have C_goes_on : Cal P w K mg base 8 "goes_on" (SpP 4 R_goes K) := ⟨⟨_, _, _, ok_goes_on F46 T C_takes, gl 46 _ rfl, F46.kp, fun_binds F46 (fun _ _ _ _ _ _ us hl => match us, hl with | [_, _, _, _], _ => rfl)⟩⟩
  have C_first_dropping : Cal P w K mg base 7 "first_dropping" (SpP 2 (R_wn fun w net => eFd (firstDropping w net)) K) := ⟨⟨_, _, _, ok_first_dropping F47 T C_choose C_own_part, gl 47 _ rfl, F47.kp, fun_binds F47 (fun _ _ _ _ _ _ us hl => match us, hl with | [_, _], _ => rfl)⟩⟩
  have C_told_offers : Cal P w K mg base 7 "told_offers" (SpP 2 (R_wn fun w net => eT (toldOffers w net)) K) := ⟨⟨_, _, _, ok_told_offers F48 T C_houses_down C_buys_of C_sells_of C_choose, gl 48 _ rfl, F48.kp, fun_binds F48 (fun _ _ _ _ _ _ us hl => match us, hl with | [_, _], _ => rfl)⟩⟩
  have C_offered_to : Cal P w K mg base 2 "offered_to" (SpP 4 R_offto K) := ⟨⟨_, _, _, ok_offered_to F49 T C_buys_of C_sells_of, gl 49 _ rfl, F49.kp, fun_binds F49 (fun _ _ _ _ _ _ us hl => match us, hl with | [_, _, _, _], _ => rfl)⟩⟩
  have C_judge : Cal P w K mg base 7 "judge" (SpP 3 R_judge K) := ⟨⟨_, _, _, ok_judge F50 T C_asked_behind C_offered_to C_choose C_own_part, gl 50 _ rfl, F50.kp, fun_binds F50 (fun _ _ _ _ _ _ us hl => match us, hl with | [_, _, _], _ => rfl)⟩⟩
  have C_is_at_rest : Cal P w K mg base 8 "is_at_rest" (SpP 2 (R_wn fun w net => .bl (isAtRest w net)) K) := ⟨⟨_, _, _, ok_is_at_rest F51 C_told_offers C_judge, gl 51 _ rfl, F51.kp, fun_binds F51 (fun _ _ _ _ _ _ us hl => match us, hl with | [_, _], _ => rfl)⟩⟩
  have C_gaining_chain : Cal P w K mg base 9 "gaining_chain" (SpP 2 (R_wn fun w net => eOc (gainingChain w net)) K) := ⟨⟨_, _, _, ok_gaining_chain F52 T C_begins C_ends C_goes_on, gl 52 _ rfl, F52.kp, fun_binds F52 (fun _ _ _ _ _ _ us hl => match us, hl with | [_, _], _ => rfl)⟩⟩
  have C_verdict : Cal P w K mg base 10 "verdict" (SpP 2 (R_wn fun w net => eVd (verdict w net)) K) := ⟨⟨_, _, _, ok_verdict F53 C_first_dropping C_gaining_chain C_told_offers, gl 53 _ rfl, F53.kp, fun_binds F53 (fun _ _ _ _ _ _ us hl => match us, hl with | [_, _], _ => rfl)⟩⟩
  exact ok_law F54 T C_draws C_web C_power C_atrest C_plan C_set C_told_offers C_judge C_same C_is_at_rest C_verdict
end
end N50
open PySem PySem.W PySem.Calls PyProof.Rows
theorem head_holds (hm : ∀ s : List Int, s.length ≤ 63 → N50.LawOk (N50.lWeb s (N50.lDraws s 323)).1) : PySem.Challenge.rw_nochaingains_k50_whole_rest_means_told_o.Holds := by
  w_on; o_law
  refine HandSHeadRun.head_any (r := OpenLaw.row PySem.Challenge.rw_nochaingains_k50_whole_rest_means_told_o) (q := view (OpenLaw.row PySem.Challenge.rw_nochaingains_k50_whole_rest_means_told_o).prog [60]) (H := N50.hk) (ob := N50.hob) (M := 4000) (loose := N50.nms) (d := HandSHeadRun.topDef (OpenLaw.row PySem.Challenge.rw_nochaingains_k50_whole_rest_means_told_o).prog 60) (kwd := []) N50.hob_eq
    (by kernel_rfl) (fun s => by kernel_rfl) N50.run (by kernel_rfl) (by kernel_rfl) (by kernel_rfl) (by rfl) (by first | assumption | decide +kernel) (by decide +kernel) ⟨rfl, rfl, rfl, rfl, rfl, by decide +kernel⟩ ?hw ?hc
  case hw => w_witness2
  case hc =>
    refine LamX.walk_ofTsE (l := PySem.Challenge.rw_nochaingains_k50_whole_rest_means_told_o) (n := 63) (k := 11) (x := "_law_script") (CX := fun _ => L2.CX0) rfl (by decide) (by kernel_rfl) ⟨rfl, by decide, by decide⟩ ?F (fun _ _ _ _ _ z => z)
    intro w mg fa h Y G hmg0
    obtain ⟨K, KX, c⟩ := Y
    have hmg : mg ("law" : PySem.Str) = some (.ref fa) := by
      have e : (HandSHeadRun.topDef (OpenLaw.row PySem.Challenge.rw_nochaingains_k50_whole_rest_means_told_o).prog 60).name = ("law" : PySem.Str) := by kernel_rfl
      rw [← e]
      exact hmg0
    have cd : He.SaysD N50.hfa N50.hfn K := c.t.d
    obtain ⟨fd, hb, hF⟩ := N50.facts (P := (PySem.Challenge.rw_nochaingains_k50_whole_rest_means_told_o).prog) (w := w) KX G cd c.more
    have e := hmg.symm.trans (He.glo_ok KX G (cd.fact 54 (f := .glo "law") rfl))
    cases e
    refine ⟨K, KX, fd, [He.cT K N50.tdef], N50.SpP 1 N50.R_law K, ?_, ?_, ?_, hb, ?_, ?_⟩
    · intro p hp; rw [List.mem_singleton.mp hp]; exact c.empty _ (by simp)
    · intro p hp; rw [List.mem_singleton.mp hp]; exact c.out _ (by simp)
    · intro p hp; rw [List.mem_singleton.mp hp]; exact codeHd_of_K KX (c.hd _ (by simp))
    · intro H a ns hl _ hH hS
      refine ⟨rfl, fun c2 p2 e2 => ?_, fun _ => False, [.scr ns], .v (.bl true), fun _ z => z.elim, .cons (.scr ?_ (Nat.le_trans hl (by decide))) .nil, ⟨ns, rfl, hl, hm ns hl, rfl⟩, rfl, fun v H' _ r => ?_⟩
      · have e3 : PySem.W.tabIn K "traded" = some (He.cT K N50.tdef) := of_decide_eq_true c.more
        rw [e3] at e2
        have e4 := hH _ (List.mem_singleton.mpr rfl)
        rw [Option.some.inj e2] at e4
        exact ⟨#[], e4, by trivial, fun pos cv z => by cases z⟩
      · rcases hS with q | q
        · exact .inl ⟨fun z => z, q⟩
        · exact .inr q
      · cases r; rfl
    · intro base XB GB TB
      exact hF base XB GB (TB _ (List.mem_singleton.mpr rfl))
theorem PySem.Challenge.cw_nochaingains_k50_whole_rest_means_told_o_holds : PySem.Challenge.rw_nochaingains_k50_whole_rest_means_told_o.Holds := by
  exact head_holds fun s _ => N50.law_all s _
